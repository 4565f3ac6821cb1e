import PyProof.Rows.All
import HandS.HeadHook4
import HandS.Head2
import HandS.Words
import HandS.WordsExc
import HandS.Defaults
import Wide.All
import OpenK.AllK
import Wide.FinOn
import HandS.ForMost
import HandS.Walk
import HandS.TupAny
import HandS.TupMul
import HandS.Style
import HandS.IsInst
import HandS.TupSets
import HandS.Deep
import HandS.AnyAll
import HandS.EndTab
import HandS.Conv
import HandS.DictComp
import HandS.Wide
import HandS.Zip
import HandS.Flow
import KE.GoesMore
import PyProof.Draws
import KE.GoesZip
import KE.KDictWalk
import HandS.Nested
import KE.KTupSum
import KE.KDictKeyed
import KE.KeyNested
import HandS.SetFor
import HandS.HeadWalk
import PySem.Challenge.RW_livingclock_k28_whole_misses
section
set_option Elab.async false
set_option linter.all false
/-! B0: the defs whose code objects own tables. -/
namespace LH
/-- the defs with generator expressions -/
def tf : List He.Defn := [("are_rising", none), ("are_editions", none), ("are_gaps", none), ("is_book", none), ("need_standing", none), ("rest_ticks", none)]
end LH
end

section
set_option Elab.async false
set_option linter.all false
set_option maxRecDepth 100000
set_option maxHeartbeats 0
/-! HD: the head: what the program's top leaves. -/
namespace LH
open PySem PySem.Spec PyProof.Rows L2
def tp (i : Nat) : Stmt := PySem.Challenge.pw_livingclock_k28_whole_misses.main.body.getD i (.Pass ⟨0, 0, 0, 0⟩)
def mt (i : Nat) : Stmt := match tp 56 with
  | .ClassDef _ _ _ b _ _ _ _ _ _ _ => b.getD i (.Pass ⟨0, 0, 0, 0⟩)
  | _ => .Pass ⟨0, 0, 0, 0⟩
def g (x : Str) (i : Nat) (ds : List He.Dv := []) : He.DefD := ⟨(x, none), x, x, defArgs (tp i), defBody (tp i), defScope (tp i), ds, []⟩
def m (x q : Str) (i : Nat) : He.DefD := ⟨("Game", some x), x, q, defArgs (mt i), defBody (mt i), defScope (mt i), [], []⟩
def fn : List He.DefD := [g "is_number" 14, g "are_rising" 15, g "are_editions" 16, g "are_touches" 17, g "are_gaps" 18, g "is_entry" 19, g "is_book" 20, g "need_clock" 21, g "need_tick" 22 [.int 0, .int (10 ^ 30)], g "every_exchange" 23,
  g "least_needed" 24, g "pairs_at" 25, g "phases_of" 26, g "fit" 28, g "not_fitting" 29, g "needs_of" 31, g "every_lean" 32, g "gap_from" 33, g "above_touches" 34, g "pushed" 35,
  g "need_standing" 37, g "still_to_do" 38, g "next_touch" 39, g "due_ticks" 40, g "rest_ticks" 41 [.adr (He.dflAt ("rest_ticks", none) 0)], g "rest_of" 42 [.adr (He.dflAt ("rest_of", none) 0)], g "need_midst" 43, g "rest" 44, g "need_phase" 48, g "need_few" 49,
  g "every_standing" 50, g "deeds_at" 51, g "done" 52, g "subsets" 55, m "__init__" "Game.__init__" 0, m "level" "Game.level" 1, m "next_level" "Game.next_level" 2, m "good_deed" "Game.good_deed" 3, m "is_good" "Game.is_good" 4, g "need_game" 57 [.int 0]] ++
  [g "sure" 58, g "most_misses" 59, g "_law_taken" 61, g "_law_low_clock" 62, g "_law_few" 63, g "_law_needed" 64, g "_law_bad" 65, g "_law_has_deed" 66, g "_law_sure" 67, g "_law_alike" 68, g "law" 69]
def names : List PySem.Str := (["is_number", "are_rising", "are_editions", "are_touches", "are_gaps", "is_entry", "is_book", "need_clock", "need_tick", "every_exchange", "least_needed", "pairs_at", "phases_of", "fit", "not_fitting", "needs_of", "every_lean", "gap_from", "above_touches", "pushed", "need_standing", "still_to_do", "next_touch", "due_ticks", "rest_ticks", "rest_of", "need_midst", "rest", "need_phase", "need_few"] : List PySem.Str) ++ (["every_standing", "deeds_at", "done", "subsets", "need_game", "sure", "most_misses", "_law_taken", "_law_low_clock", "_law_few", "_law_needed", "_law_bad", "_law_has_deed", "_law_sure", "_law_alike", "law"] : List PySem.Str)
def fa : List He.Fa := [.free "isinstance", .free "int", .free "bool", .free "tuple", .free "list", .free "len", .free "all", .free "any", .free "sum", .free "zip", .free "min", .free "max", .free "sorted", .free "range", .free "enumerate", .free "str"] ++
  ([.int "MOST_PERIOD" 12, .int "MOST_WHEELS" 12, .int "MOST_EDITIONS" 4, .int "MOST_EXCHANGES" 24, .int "MOST_HANDS" 12, .int "MOST_PAIRS" 4000, .int "MOST_MISSES" 12] ++
  ([.glo "Game", .cls "Game", .noat "Game" "clock", .noat "Game" "levels", .noat "Game" "pairs", .meth "Game" "level", .meth "Game" "next_level", .meth "Game" "good_deed", .meth "Game" "is_good", .mkr "Game"] ++ names.map .glo))
def emptyT (K : PySem.W.Frag) (a : Addr) : Bool := match K.lookup a with
  | some ⟨.type c, _, .seq its _, _⟩ => decide (c = "tuple") && its.isEmpty
  | _ => false
def ex (K : PySem.W.Frag) : Bool := emptyT K (He.dflAt ("rest_of", none) 0 K)
abbrev R : PySem.W.OpenRow := PySem.W.OpenLaw.row PySem.Challenge.rw_livingclock_k28_whole_misses
abbrev hk : PySem.W.Hook := He.hookX 5 fa fn [] tf ex
def ob (s : PySem.W.SharedT) : He.AlX := He.obsX 5 fa fn [] tf ex (HandSHeadRun.getT s)
theorem ob_eq (s : PySem.W.SharedT) : ob s = hk.obs s.abs := He.obsX_eq (HandSHeadRun.getT_eq s)
def loose : List PySem.Str := (["ClockError", "BadClock", "BadTick", "BadNumber", "BadStanding", "TooMany", "BadPhase", "MOST_PERIOD", "MOST_WHEELS", "MOST_EDITIONS", "MOST_EXCHANGES", "MOST_TICK", "is_number", "are_rising", "are_editions", "are_touches", "are_gaps", "is_entry", "is_book", "need_clock", "need_tick", "every_exchange", "least_needed", "pairs_at", "phases_of", "fit", "not_fitting", "needs_of", "every_lean", "gap_from"] : List PySem.Str) ++
  (["above_touches", "pushed", "need_standing", "still_to_do", "next_touch", "due_ticks", "rest_ticks", "rest_of", "need_midst", "rest", "MOST_HANDS", "MOST_PAIRS", "need_phase", "need_few", "every_standing", "deeds_at", "done", "MOST_MISSES", "subsets", "Game", "need_game", "sure", "most_misses", "_law_taken", "_law_low_clock", "_law_few", "_law_needed", "_law_bad", "_law_has_deed", "_law_sure"] : List PySem.Str) ++ (["_law_alike"] : List PySem.Str)
theorem run (w : World) : HandSHeadRun.RunEq R (PySem.W.view R.prog [69]) hk ob 4000 loose w := by
  intro os
  kernel_rfl
end LH
end

section
set_option Elab.async false
set_option linter.all false
set_option maxRecDepth 100000
set_option maxHeartbeats 2000000
/-! D0: data over the hand layer: what slots hold, what stays, canonical readings. -/
namespace DL
open PySem PySem.Spec L2

/-- immutable data -/
inductive D where
  | non | b (x : Bool) | i (n : Int) | t (xs : List D) | c (ns : List Int) | s (ns : List Int)

/-! ### objects that never change; what is kept -/
def Im : HO → Bool
  | .tup _ => true
  | .frz _ _ => true
  | _ => false
def NT : HO → Bool
  | .tbl _ => false
  | _ => true
theorem Im.nt {o : HO} (h : Im o = true) : NT o = true := by cases o <;> first | rfl | cases h
def TK (H H' : Hp) : Prop := ∀ b o, H b = some o → Im o = true → H' b = some o
structure Keep (H H' : Hp) : Prop where
  obj : ∀ b o, H b = some o → NT o = true → H' b = some o
  tab : ∀ b ps, H b = some (.tbl ps) → ∃ ps', H' b = some (.tbl ps') ∧ (TriplesOk ps.toList → TriplesOk ps'.toList)
theorem TK.refl (H : Hp) : TK H H := fun _ _ e _ => e
theorem TK.trans {H H1 H2 : Hp} (a : TK H H1) (b : TK H1 H2) : TK H H2 := fun c o e h => b c o (a c o e h) h
theorem Keep.refl (H : Hp) : Keep H H := ⟨fun _ _ e _ => e, fun _ ps e => ⟨ps, e, id⟩⟩
theorem Keep.trans {H H1 H2 : Hp} (a : Keep H H1) (b : Keep H1 H2) : Keep H H2 :=
  ⟨fun c o e h => b.obj c o (a.obj c o e h) h, fun c ps e => by
    obtain ⟨ps1, e1, k1⟩ := a.tab c ps e
    obtain ⟨ps2, e2, k2⟩ := b.tab c ps1 e1
    exact ⟨ps2, e2, fun z => k2 (k1 z)⟩⟩
theorem Keep.tk {H H' : Hp} (a : Keep H H') : TK H H' := fun b o e h => a.obj b o e (Im.nt h)
theorem Keep.some {H H' : Hp} (a : Keep H H') {b : Addr} {o : HO} (e : H b = some o) : ∃ o', H' b = some o' := by
  cases h : NT o with
  | true => exact ⟨o, a.obj b o e h⟩
  | false =>
    cases o with
    | tbl ps =>
      obtain ⟨ps', e', _⟩ := a.tab b ps e
      exact ⟨_, e'⟩
    | _ => cases h
theorem Keep.free {H H' : Hp} (a : Keep H H') {b : Addr} (e : H' b = none) : H b = none := by
  cases q : H b with
  | none => rfl
  | some o =>
    obtain ⟨o', e'⟩ := a.some q
    rw [e] at e'
    cases e'
theorem Keep.new {H : Hp} {p : Addr} {o : HO} (h : H p = none) : Keep H (upd H p o) :=
  ⟨fun b u e _ => by rw [upd_ne (ne_of_none e h)]; exact e, fun b ps e => ⟨ps, by rw [upd_ne (ne_of_none e h)]; exact e, id⟩⟩
/-- what H does not know may change -/
theorem Keep.mut {H H' : Hp} {p : Addr} {o : HO} (k : Keep H H') (h : H p = none) : Keep H (upd H' p o) :=
  ⟨fun b u e q => by rw [upd_ne (ne_of_none e h)]; exact k.obj b u e q, fun b ps e => by rw [upd_ne (ne_of_none e h)]; exact k.tab b ps e⟩
theorem Keep.tabbed {P : Addr} {H H' : Hp} (h : GxR.Tabbed P H H') (h0 : GxR.TabG H P) : Keep H H' := by
  obtain ⟨⟨ps', e', t'⟩, r⟩ := h
  obtain ⟨ps0, e0, t0⟩ := h0
  refine ⟨fun b o e q => ?_, fun b ps e => ?_⟩
  · by_cases hb : b = P
    · subst hb
      rw [e0] at e
      cases e
      cases q
    · rw [r b hb]
      exact e
  · by_cases hb : b = P
    · subst hb
      exact ⟨ps', e', fun _ => t'⟩
    · exact ⟨ps, by rw [r b hb]; exact e, id⟩
theorem Keep.tabG {H H' : Hp} (k : Keep H H') {P : Addr} (h : GxR.TabG H P) : GxR.TabG H' P := by
  obtain ⟨ps, e, t⟩ := h
  obtain ⟨ps', e', t'⟩ := k.tab P ps e
  exact ⟨ps', e', t' t⟩
theorem TK.seqT {K : PySem.W.Frag} {H H' : Hp} {a : Addr} {xs : List V} (k : TK H H') (h : SqT K H a xs) : SqT K H' a xs := by
  rcases h with (h | ⟨o, h⟩) | h
  · exact .inl (.inl (k _ _ h rfl))
  · exact .inl (.inr ⟨o, k _ _ h rfl⟩)
  · exact .inr h
theorem Keep.seqL {K : PySem.W.Frag} {H H' : Hp} {a : Addr} {xs : List V} (k : Keep H H') (h : SqL K H a xs) : SqL K H' a xs := by
  rcases h with (h | ⟨o, h⟩) | h
  · exact .inl (.inl (k.obj _ _ h rfl))
  · exact .inl (.inr ⟨o, k.obj _ _ h rfl⟩)
  · exact .inr h

/-! ### data in a heap -/
/-- a tuple of ints of which it is known that it has no dict of its own (so that its methods can be called) -/
def CT (K : PySem.W.Frag) (H : Hp) (a : Addr) (ns : List Int) : Prop :=
  (∃ o, H a = some (.frz o (.tup (ns.map V.int))) ∧ o.cls = .type "tuple" ∧ o.dict = none) ∨ ∃ o, K.lookup a = some o ∧ o.cls = .type "tuple" ∧ o.dict = none ∧ ∀ H' : Hp, SqT K H' a (ns.map V.int)
theorem CT.mono {K : PySem.W.Frag} {H H' : Hp} {a : Addr} {ns : List Int} (h : CT K H a ns) (k : TK H H') : CT K H' a ns :=
  h.elim (fun ⟨o, e, q⟩ => .inl ⟨o, k _ _ e rfl, q⟩) .inr
theorem CT.seq {K : PySem.W.Frag} {H : Hp} {a : Addr} {ns : List Int} (h : CT K H a ns) : SqT K H a (ns.map V.int) := h.elim (fun ⟨o, e, _⟩ => .inl (.inr ⟨o, e⟩)) fun ⟨_, _, _, _, h⟩ => h H
/-- the script: a list of ints that nobody writes -/
def Scr (K : PySem.W.Frag) (H : Hp) (a : Addr) (ns : List Int) : Prop := (∃ o, H a = some (.frz o (.lst (ns.map V.int)))) ∨ ∃ o, K.lookup a = some o ∧ o.cls = .type "list" ∧ ∀ H' : Hp, SqL K H' a (ns.map V.int)
theorem Scr.mono {K : PySem.W.Frag} {H H' : Hp} {a : Addr} {ns : List Int} (h : Scr K H a ns) (k : TK H H') : Scr K H' a ns := h.elim (fun ⟨o, e⟩ => .inl ⟨o, k _ _ e rfl⟩) .inr
theorem Scr.seq {K : PySem.W.Frag} {H : Hp} {a : Addr} {ns : List Int} (h : Scr K H a ns) : SqL K H a (ns.map V.int) := h.elim (fun ⟨o, e⟩ => .inl (.inr ⟨o, e⟩)) fun ⟨_, _, _, h⟩ => h H
mutual
def Dn (K : PySem.W.Frag) (H : Hp) : D → V → Prop
  | .non, v => v = .non
  | .b x, v => v = .bl x
  | .i n, v => v = .int n
  | .t xs, v => ∃ a vs, v = .ref a ∧ H a = some (.tup vs) ∧ Dns K H xs vs
  | .c ns, v => ∃ a, v = .ref a ∧ CT K H a ns
  | .s ns, v => ∃ a, v = .ref a ∧ Scr K H a ns
def Dns (K : PySem.W.Frag) (H : Hp) : List D → List V → Prop
  | [], vs => vs = []
  | x :: xs, vs => ∃ v r, vs = v :: r ∧ Dn K H x v ∧ Dns K H xs r
end
section
variable {K : PySem.W.Frag} {H H' : Hp}
mutual
theorem Dn.mono (k : TK H H') : ∀ (d : D) (v : V), Dn K H d v → Dn K H' d v
  | .non, _, h => h
  | .b _, _, h => h
  | .i _, _, h => h
  | .t xs, _, ⟨a, vs, e, h1, h2⟩ => ⟨a, vs, e, k _ _ h1 rfl, Dns.mono k xs vs h2⟩
  | .c ns, _, ⟨a, e, h⟩ => ⟨a, e, h.mono k⟩
  | .s ns, _, ⟨a, e, h⟩ => ⟨a, e, h.mono k⟩
theorem Dns.mono (k : TK H H') : ∀ (ds : List D) (vs : List V), Dns K H ds vs → Dns K H' ds vs
  | [], _, h => h
  | x :: xs, _, ⟨v, r, e, h1, h2⟩ => ⟨v, r, e, Dn.mono k x v h1, Dns.mono k xs r h2⟩
end
theorem Dn.k {d : D} {v : V} (h : Dn K H d v) (k : TK H H') : Dn K H' d v := Dn.mono k d v h
theorem Dns.k {ds : List D} {vs : List V} (h : Dns K H ds vs) (k : TK H H') : Dns K H' ds vs := Dns.mono k ds vs h
theorem dns_nil : Dns K H [] [] := rfl
theorem dns_cons {d : D} {v : V} {ds : List D} {vs : List V} (h : Dn K H d v) (r : Dns K H ds vs) : Dns K H (d :: ds) (v :: vs) := ⟨v, vs, rfl, h, r⟩
theorem Dns.len : ∀ {ds : List D} {vs : List V}, Dns K H ds vs → vs.length = ds.length
  | [], vs, h => by
    rw [show vs = [] from h]
    rfl
  | _ :: _, _, ⟨_, _, e, _, h⟩ => by rw [e, List.length_cons, List.length_cons, Dns.len h]
theorem Dns.get : ∀ {ds : List D} {vs : List V} {i : Nat} {v : V}, Dns K H ds vs → vs[i]? = some v → ∃ d, ds[i]? = some d ∧ Dn K H d v
  | [], vs, i, v, h, e => by
    rw [show vs = [] from h] at e
    simp at e
  | d :: ds, vs, 0, v, ⟨w, r, e1, h1, _⟩, e => by
    subst e1
    have q : w = v := Option.some.inj e
    subst q
    exact ⟨d, rfl, h1⟩
  | d :: ds, vs, i + 1, v, ⟨w, r, e1, _, h2⟩, e => by
    subst e1
    exact Dns.get (i := i) h2 e
theorem Dns.at : ∀ {ds : List D} {vs : List V} {i : Nat} {d : D}, Dns K H ds vs → ds[i]? = some d → ∃ v, vs[i]? = some v ∧ Dn K H d v := fun {ds vs i d} h e => by
  have hl : i < vs.length := by rw [h.len]; exact (List.getElem?_eq_some_iff.mp e).1
  obtain ⟨d', e', q⟩ := h.get (List.getElem?_eq_getElem hl)
  rw [e] at e'
  cases e'
  exact ⟨_, List.getElem?_eq_getElem hl, q⟩
theorem Dns.append : ∀ {ds es : List D} {vs ws : List V}, Dns K H ds vs → Dns K H es ws → Dns K H (ds ++ es) (vs ++ ws)
  | [], es, vs, ws, h, h' => by
    rw [show vs = [] from h]
    exact h'
  | d :: ds, es, vs, ws, ⟨v, r, e, h1, h2⟩, h' => by
    subst e
    exact ⟨v, r ++ ws, rfl, h1, Dns.append h2 h'⟩
theorem Dns.snoc {ds : List D} {vs : List V} {d : D} {v : V} (h : Dns K H ds vs) (h1 : Dn K H d v) : Dns K H (ds ++ [d]) (vs ++ [v]) := h.append (dns_cons h1 dns_nil)
theorem Dns.drop : ∀ {ds : List D} {vs : List V} (n : Nat), Dns K H ds vs → Dns K H (ds.drop n) (vs.drop n)
  | _, _, 0, h => h
  | [], vs, n + 1, h => by
    rw [show vs = [] from h]
    rfl
  | d :: ds, vs, n + 1, ⟨v, r, e, h1, h2⟩ => by
    subst e
    exact Dns.drop n h2
theorem Dns.take : ∀ {ds : List D} {vs : List V} (n : Nat), Dns K H ds vs → Dns K H (ds.take n) (vs.take n)
  | _, _, 0, _ => rfl
  | [], vs, n + 1, h => by
    rw [show vs = [] from h]
    rfl
  | d :: ds, vs, n + 1, ⟨v, r, e, h1, h2⟩ => by
    subst e
    exact ⟨v, r.take n, rfl, h1, Dns.take n h2⟩
theorem Dns.set : ∀ {ds : List D} {vs : List V} {d : D} {v : V} (j : Nat), Dns K H ds vs → Dn K H d v → Dns K H (ds.set j d) (vs.set j v)
  | [], vs, d, v, j, h, _ => by
    rw [show vs = [] from h]
    rfl
  | x :: ds, vs, d, v, 0, ⟨w, r, e, _, h2⟩, h => by
    subst e
    exact ⟨v, r, rfl, h, h2⟩
  | x :: ds, vs, d, v, j + 1, ⟨w, r, e, h1, h2⟩, h => by
    subst e
    exact ⟨w, r.set j v, rfl, h1, Dns.set j h2 h⟩
/-- nums -/
def nums (ns : List Int) : List D := ns.map .i
theorem dns_nums : ∀ {ns : List Int} {vs : List V}, Dns K H (nums ns) vs → vs = ns.map V.int
  | [], vs, h => h
  | n :: ns, vs, ⟨v, r, e, h1, h2⟩ => by
    rw [e, show v = V.int n from h1, dns_nums (ns := ns) h2]
    rfl
theorem nums_dns : ∀ {ns : List Int}, Dns K H (nums ns) (ns.map V.int)
  | [] => rfl
  | n :: ns => ⟨_, _, rfl, rfl, nums_dns (ns := ns)⟩
end

/-! ### slots -/
/-- a thing that stays -/
structure Ps where
  phi : Hp → V → Prop
  mono : ∀ H H' v, Keep H H' → phi H v → phi H' v
/-- the content of an owned cell -/
structure Ct where
  on : Addr → HO → Hp → Prop
  mono : ∀ a o H H', TK H H' → on a o H → on a o H'
  mu : ∀ a o H, on a o H → Im o = false ∧ NT o = true
/-- the tables of code objects that defs with generator expressions own (see the end) -/
def tabs (K : PySem.W.Frag) : List Addr := LH.tf.map fun p => (He.cT K p).2
inductive Sl where
  | u | d (x : D) | p (x : Ps) | o (c : Ct)
abbrev En := List Sl
/-- hidden addresses -/
abbrev Hd := Addr → Prop
def noZ : Hd := fun _ => False
def Own (Z : Hd) (σ : St) (Γ : En) (b : Addr) : Prop := Z b ∨ ∃ (i : Nat) (c : Ct), Γ[i]? = some (.o c) ∧ σ[i]? = some (some (.ref b))
open Classical in
noncomputable def minus (Z : Hd) (σ : St) (Γ : En) (H : Hp) : Hp := fun b => if Own Z σ Γ b then none else H b
section
variable {K : PySem.W.Frag} {H H' H0 : Hp} {σ σ' : St} {Γ Γ' : En} {a b : Addr} {o : HO} {Z Z' : Hd}
theorem minus_some (e : minus Z σ Γ H b = some o) : H b = some o ∧ ¬ Own Z σ Γ b := by
  unfold minus at e
  split at e
  · cases e
  · exact ⟨e, by assumption⟩
theorem minus_of (e : H b = some o) (n : ¬ Own Z σ Γ b) : minus Z σ Γ H b = some o := by
  unfold minus
  rw [if_neg n]
  exact e
theorem minus_own (n : Own Z σ Γ b) : minus Z σ Γ H b = none := by
  unfold minus
  rw [if_pos n]
theorem minus_keep : Keep (minus Z σ Γ H) H := ⟨fun _ _ e _ => (minus_some e).1, fun _ ps e => ⟨ps, (minus_some e).1, id⟩⟩
/-- fewer owned, the same heap -/
theorem minus_less (h : ∀ b, Own Z' σ' Γ' b → Own Z σ Γ b) : Keep (minus Z σ Γ H) (minus Z' σ' Γ' H) :=
  ⟨fun b o e _ => let ⟨e1, n⟩ := minus_some e; minus_of e1 fun z => n (h b z), fun b ps e => let ⟨e1, n⟩ := minus_some e; ⟨ps, minus_of e1 fun z => n (h b z), id⟩⟩
/-- the heap grows, the owned the same -/
theorem Keep.minus (k : Keep H H') : Keep (minus Z σ Γ H) (minus Z σ Γ H') := by
  refine ⟨fun b o e q => ?_, fun b ps e => ?_⟩
  · obtain ⟨e1, n⟩ := minus_some e
    exact minus_of (k.obj b o e1 q) n
  · obtain ⟨e1, n⟩ := minus_some e
    obtain ⟨ps', e', t⟩ := k.tab b ps e1
    exact ⟨ps', minus_of e' n, t⟩
theorem minus_upd_own (n : Own Z σ Γ a) : minus Z σ Γ (upd H a o) = minus Z σ Γ H := by
  funext b
  unfold minus
  split
  · rfl
  · rename_i h
    rw [upd_ne fun e => h (by rw [e]; exact n)]
theorem minus_iff (h : ∀ b, Own Z' σ' Γ' b ↔ Own Z σ Γ b) : minus Z' σ' Γ' H = minus Z σ Γ H := by
  funext b
  unfold minus
  by_cases q : Own Z σ Γ b
  · rw [if_pos q, if_pos ((h b).mpr q)]
  · rw [if_neg q, if_neg fun z => q ((h b).mp z)]

def SlV (K : PySem.W.Frag) (B H : Hp) : Sl → Option V → Prop
  | .u, _ => True
  | .d d, v => ∃ x, v = some x ∧ Dn K B d x
  | .p p, v => ∃ x, v = some x ∧ p.phi B x
  | .o c, v => ∃ a ob, v = some (.ref a) ∧ H a = some ob ∧ c.on a ob B
/-- the slots hold what Γ says -/
structure OkS (K : PySem.W.Frag) (Z : Hd) (σ : St) (Γ : En) (H : Hp) : Prop where
  len : σ.length = Γ.length
  sl : ∀ (i : Nat) (s : Sl), Γ[i]? = some s → ∃ v, σ[i]? = some v ∧ SlV K (minus Z σ Γ H) H s v
  dist : ∀ (i j : Nat) (c c' : Ct) (b : Addr), Γ[i]? = some (.o c) → Γ[j]? = some (.o c') → σ[i]? = some (some (.ref b)) → σ[j]? = some (some (.ref b)) → i = j
  zo : ∀ b, Z b → ∃ o, H b = some o ∧ Im o = false ∧ NT o = true
  zd : ∀ (i : Nat) (c : Ct) (b : Addr), Γ[i]? = some (.o c) → σ[i]? = some (some (.ref b)) → ¬ Z b
  tb : ∀ P ∈ tabs K, GxR.TabG (minus Z σ Γ H) P
/-- over what must stay -/
structure Ok (K : PySem.W.Frag) (H0 : Hp) (Z : Hd) (σ : St) (Γ : En) (H : Hp) : Prop extends OkS K Z σ Γ H where
  base : Keep H0 (minus Z σ Γ H)
/-- behind an expression -/
structure Nx (K : PySem.W.Frag) (Z : Hd) (σ : St) (Γ : En) (H H' : Hp) : Prop where
  ok : OkS K Z σ Γ H'
  kp : Keep (minus Z σ Γ H) (minus Z σ Γ H')
  fr : ∀ b o, H b = some o → ∃ o', H' b = some o'
  zs : ∀ b, Z b → H' b = H b

theorem OkS.own_ex (k : OkS K Z σ Γ H) (h : Own Z σ Γ b) : ∃ o, H b = some o ∧ Im o = false ∧ NT o = true := by
  rcases h with h | ⟨i, c, e1, e2⟩
  · exact k.zo b h
  · obtain ⟨v, e3, a, ob, e4, e5, e6⟩ := k.sl i _ e1
    rw [e2] at e3
    cases e3
    cases e4
    exact ⟨ob, e5, c.mu _ _ _ e6⟩
theorem OkS.own_some (k : OkS K Z σ Γ H) (h : Own Z σ Γ b) : ∃ o, H b = some o := let ⟨o, e, _⟩ := k.own_ex h; ⟨o, e⟩
theorem OkS.own_mut (k : OkS K Z σ Γ H) (h : Own Z σ Γ b) (e : H b = some o) : Im o = false ∧ NT o = true := by
  obtain ⟨ob, e5, e6⟩ := k.own_ex h
  rw [e] at e5
  cases e5
  exact e6
theorem OkS.fresh (k : OkS K Z σ Γ H) (h : H b = none) : ¬ Own Z σ Γ b := fun z => by
  obtain ⟨o, e⟩ := k.own_some z
  rw [h] at e
  cases e
/-- immutable things are not owned -/
theorem OkS.tk (k : OkS K Z σ Γ H) : TK H (minus Z σ Γ H) := fun b o e h => minus_of e fun z => by
  rw [(k.own_mut z e).1] at h
  cases h
theorem Nx.refl (k : OkS K Z σ Γ H) : Nx K Z σ Γ H H := ⟨k, Keep.refl _, fun b o e => ⟨o, e⟩, fun _ _ => rfl⟩
theorem Nx.trans {H1 H2 : Hp} (a : Nx K Z σ Γ H H1) (b : Nx K Z σ Γ H1 H2) : Nx K Z σ Γ H H2 :=
  ⟨b.ok, a.kp.trans b.kp, fun c o e => let ⟨o', e'⟩ := a.fr c o e; b.fr c o' e', fun c z => (b.zs c z).trans (a.zs c z)⟩
theorem Nx.free (n : Nx K Z σ Γ H H') (h : H' b = none) : H b = none := by
  cases q : H b with
  | none => rfl
  | some o =>
    obtain ⟨o', e⟩ := n.fr b o q
    rw [h] at e
    cases e
/-- everything kept: the slots as they were -/
theorem OkS.keep (k : OkS K Z σ Γ H) (kp : Keep H H') : OkS K Z σ Γ H' := by
  refine ⟨k.len, fun i s e => ?_, k.dist, fun b z => ?_, k.zd, fun P hP => kp.minus.tabG (k.tb P hP)⟩
  · obtain ⟨v, e1, q⟩ := k.sl i s e
    refine ⟨v, e1, ?_⟩
    cases s with
    | u => trivial
    | d d =>
      obtain ⟨x, e2, q⟩ := q
      exact ⟨x, e2, q.k kp.minus.tk⟩
    | p p =>
      obtain ⟨x, e2, q⟩ := q
      exact ⟨x, e2, p.mono _ _ _ kp.minus q⟩
    | o c =>
      obtain ⟨a, ob, e2, e3, q⟩ := q
      exact ⟨a, ob, e2, kp.obj a ob e3 (c.mu _ _ _ q).2, c.mono _ _ _ _ kp.minus.tk q⟩
  · obtain ⟨o, e, h1, h2⟩ := k.zo b z
    exact ⟨o, kp.obj b o e h2, h1, h2⟩
theorem Nx.of_keep (k : OkS K Z σ Γ H) (kp : Keep H H') : Nx K Z σ Γ H H' := ⟨k.keep kp, kp.minus, fun b o e => kp.some e, fun b z => by
  obtain ⟨o, e, h1, h2⟩ := k.zo b z
  rw [e, kp.obj b o e h2]⟩
theorem Nx.new (k : OkS K Z σ Γ H) (h : H b = none) : Nx K Z σ Γ H (upd H b o) := Nx.of_keep k (Keep.new h)
theorem Ok.nx (k : Ok K H0 Z σ Γ H) (n : Nx K Z σ Γ H H') : Ok K H0 Z σ Γ H' := ⟨n.ok, k.base.trans n.kp⟩
theorem Ok.out (k : Ok K H0 Z σ Γ H) (h : Own Z σ Γ b) : H0 b = none := k.base.free (minus_own h)

theorem own_set_same {i : Nat} {c c' : Ct} (hi : Γ[i]? = some (.o c)) : Own Z σ (Γ.set i (.o c')) b ↔ Own Z σ Γ b := by
  have hlt : i < Γ.length := (List.getElem?_eq_some_iff.mp hi).1
  constructor
  · rintro (z | ⟨j, e, h1, h2⟩)
    · exact .inl z
    · by_cases hj : i = j
      · subst hj
        exact .inr ⟨i, c, hi, h2⟩
      · rw [List.getElem?_set_ne hj] at h1
        exact .inr ⟨j, e, h1, h2⟩
  · rintro (z | ⟨j, e, h1, h2⟩)
    · exact .inl z
    · by_cases hj : i = j
      · subst hj
        exact .inr ⟨i, c', by rw [List.getElem?_set_self hlt], h2⟩
      · exact .inr ⟨j, e, by rw [List.getElem?_set_ne hj]; exact h1, h2⟩
theorem minus_set_upd {i : Nat} {c c' : Ct} {ob' : HO} (hi : Γ[i]? = some (.o c)) (hs : σ[i]? = some (some (.ref a))) : minus Z σ (Γ.set i (.o c')) (upd H a ob') = minus Z σ Γ H := by
  rw [← minus_upd_own (H := H) (o := ob') (.inr ⟨i, c, hi, hs⟩)]
  exact minus_iff fun b => own_set_same hi
/-- an owned cell changes -/
theorem OkS.write {i : Nat} {c c' : Ct} {ob' : HO} (k : OkS K Z σ Γ H) (hi : Γ[i]? = some (.o c)) (hs : σ[i]? = some (some (.ref a))) (h' : c'.on a ob' (minus Z σ Γ H)) : OkS K Z σ (Γ.set i (.o c')) (upd H a ob') := by
  have hlt : i < Γ.length := (List.getElem?_eq_some_iff.mp hi).1
  have back : ∀ {j : Nat} {d : Ct}, (Γ.set i (.o c'))[j]? = some (.o d) → ∃ d, Γ[j]? = some (.o d) := fun {j d} e => by
    by_cases hj : i = j
    · subst hj
      exact ⟨c, hi⟩
    · rw [List.getElem?_set_ne hj] at e
      exact ⟨d, e⟩
  refine ⟨by rw [List.length_set]; exact k.len, fun j s e => ?_, fun j l d d' b e1 e2 e3 e4 => ?_, fun b z => ?_, fun j d b e1 e2 => ?_, fun P hP => by rw [minus_set_upd hi hs]; exact k.tb P hP⟩
  · rw [minus_set_upd hi hs]
    by_cases hj : i = j
    · subst hj
      rw [List.getElem?_set_self hlt] at e
      cases e
      exact ⟨_, hs, a, ob', rfl, upd_same, h'⟩
    · rw [List.getElem?_set_ne hj] at e
      obtain ⟨v, e1, q⟩ := k.sl j s e
      refine ⟨v, e1, ?_⟩
      cases s with
      | u => trivial
      | d d => exact q
      | p p => exact q
      | o d =>
        obtain ⟨x, ob, e2, e3, q⟩ := q
        refine ⟨x, ob, e2, ?_, q⟩
        rw [upd_ne fun z => hj (k.dist i j c d a hi e hs (by rw [e1, e2, z]))]
        exact e3
  · obtain ⟨_, q1⟩ := back e1
    obtain ⟨_, q2⟩ := back e2
    exact k.dist j l _ _ b q1 q2 e3 e4
  · obtain ⟨o, e, h1, h2⟩ := k.zo b z
    exact ⟨o, by rw [upd_ne fun q => k.zd i c a hi hs (by rw [← q]; exact z)]; exact e, h1, h2⟩
  · obtain ⟨_, q1⟩ := back e1
    exact k.zd j _ b q1 e2
theorem Ok.write {i : Nat} {c c' : Ct} {ob' : HO} (k : Ok K H0 Z σ Γ H) (hi : Γ[i]? = some (.o c)) (hs : σ[i]? = some (some (.ref a))) (h' : c'.on a ob' (minus Z σ Γ H)) : Ok K H0 Z σ (Γ.set i (.o c')) (upd H a ob') :=
  ⟨k.toOkS.write hi hs h', by rw [minus_set_upd hi hs]; exact k.base⟩
/-- an owned cell changes, its kind of content not (an expression's write) -/
theorem Nx.write {i : Nat} {c : Ct} {ob' : HO} (k : OkS K Z σ Γ H) (hi : Γ[i]? = some (.o c)) (hs : σ[i]? = some (some (.ref a))) (h' : c.on a ob' (minus Z σ Γ H)) : Nx K Z σ Γ H (upd H a ob') := by
  have q := k.write hi hs h'
  have e : Γ.set i (.o c) = Γ := by
    apply List.ext_getElem?
    intro j
    by_cases hj : i = j
    · subst hj
      rw [List.getElem?_set_self (List.getElem?_eq_some_iff.mp hi).1, hi]
    · rw [List.getElem?_set_ne hj]
  rw [e] at q
  refine ⟨q, ?_, fun b o e => ?_, fun b z => ?_⟩
  · rw [minus_upd_own (.inr ⟨i, c, hi, hs⟩)]
    exact Keep.refl _
  · by_cases hb : b = a
    · exact ⟨ob', by rw [hb, upd_same]⟩
    · exact ⟨o, by rw [upd_ne hb]; exact e⟩
  · exact upd_ne fun q => k.zd i c a hi hs (by rw [← q]; exact z)

/-- a slot changed to something that is not owned -/
theorem own_set_less {i : Nat} {s : Sl} {v : Option V} (hs : ∀ c, s ≠ .o c) (h : Own Z (σ.set i v) (Γ.set i s) b) : Own Z σ Γ b := by
  rcases h with z | ⟨j, e, h1, h2⟩
  · exact .inl z
  · by_cases hj : i = j
    · subst hj
      by_cases hl : i < Γ.length
      · rw [List.getElem?_set_self hl] at h1
        cases h1
        exact absurd rfl (hs e)
      · rw [List.getElem?_eq_none (by rw [List.length_set]; omega)] at h1
        cases h1
    · rw [List.getElem?_set_ne hj] at h1 h2
      exact .inr ⟨j, e, h1, h2⟩
theorem Ok.setN {i : Nat} {s : Sl} {v : Option V} (k : Ok K H0 Z σ Γ H) (hl : i < σ.length) (hs : ∀ c, s ≠ .o c) (hv : SlV K (minus Z σ Γ H) H s v) : Ok K H0 Z (σ.set i v) (Γ.set i s) H := by
  have less : Keep (minus Z σ Γ H) (minus Z (σ.set i v) (Γ.set i s) H) := minus_less fun b => own_set_less hs
  have ne : ∀ {j c}, (Γ.set i s)[j]? = some (.o c) → i ≠ j := fun {j c} e z => by
    subst z
    by_cases hg : i < Γ.length
    · rw [List.getElem?_set_self hg] at e
      exact hs c (Option.some.inj e)
    · rw [List.getElem?_eq_none (by rw [List.length_set]; omega)] at e
      cases e
  refine ⟨⟨by rw [List.length_set, List.length_set]; exact k.len, fun j t e => ?_, fun j l c c' b e1 e2 e3 e4 => ?_, k.zo, fun j c b e1 e2 => ?_, fun P hP => less.tabG (k.tb P hP)⟩, k.base.trans less⟩
  · by_cases hj : i = j
    · subst hj
      have e' : t = s := by
        by_cases hg : i < Γ.length
        · rw [List.getElem?_set_self hg] at e
          exact (Option.some.inj e).symm
        · rw [List.getElem?_eq_none (by rw [List.length_set]; omega)] at e
          cases e
      subst e'
      refine ⟨v, by rw [List.getElem?_set_self hl], ?_⟩
      cases t with
      | u => trivial
      | d d =>
        obtain ⟨x, e2, q⟩ := hv
        exact ⟨x, e2, q.k less.tk⟩
      | p p =>
        obtain ⟨x, e2, q⟩ := hv
        exact ⟨x, e2, p.mono _ _ _ less q⟩
      | o c => exact absurd rfl (hs c)
    · rw [List.getElem?_set_ne hj] at e ⊢
      obtain ⟨w, e1, q⟩ := k.sl j t e
      refine ⟨w, e1, ?_⟩
      cases t with
      | u => trivial
      | d d =>
        obtain ⟨x, e2, q⟩ := q
        exact ⟨x, e2, q.k less.tk⟩
      | p p =>
        obtain ⟨x, e2, q⟩ := q
        exact ⟨x, e2, p.mono _ _ _ less q⟩
      | o c =>
        obtain ⟨x, ob, e2, e3, q⟩ := q
        exact ⟨x, ob, e2, e3, c.mono _ _ _ _ less.tk q⟩
  · have n1 := ne e1
    have n2 := ne e2
    rw [List.getElem?_set_ne n1] at e1 e3
    rw [List.getElem?_set_ne n2] at e2 e4
    exact k.dist j l c c' b e1 e2 e3 e4
  · have n1 := ne e1
    rw [List.getElem?_set_ne n1] at e1 e2
    exact k.zd j c b e1 e2
/-- a slot takes a new owned cell, made since H -/
theorem Ok.setO {i : Nat} {c : Ct} {ob : HO} (k : Ok K H0 Z σ Γ H) (n : Nx K Z σ Γ H H') (hl : i < σ.length) (fr : H a = none) (ha : H' a = some ob) (hc : c.on a ob H') :
    Ok K H0 Z (σ.set i (some (.ref a))) (Γ.set i (.o c)) H' := by
  have na : ∀ {b o}, minus Z σ Γ H b = some o → b ≠ a := fun {b o} e z => by
    rw [z] at e
    rw [(minus_some e).1] at fr
    cases fr
  have ow : ∀ b, Own Z (σ.set i (some (.ref a))) (Γ.set i (.o c)) b → b = a ∨ Own Z σ Γ b := by
    rintro b (z | ⟨j, e, h1, h2⟩)
    · exact .inr (.inl z)
    · by_cases hj : i = j
      · subst hj
        rw [List.getElem?_set_self hl] at h2
        cases h2
        exact .inl rfl
      · rw [List.getElem?_set_ne hj] at h1 h2
        exact .inr (.inr ⟨j, e, h1, h2⟩)
  have kp : Keep (minus Z σ Γ H) (minus Z (σ.set i (some (.ref a))) (Γ.set i (.o c)) H') := by
    refine ⟨fun b o e q => ?_, fun b ps e => ?_⟩
    · obtain ⟨e1, e2⟩ := minus_some (n.kp.obj b o e q)
      exact minus_of e1 fun z => (ow b z).elim (na e) e2
    · obtain ⟨ps', e', t⟩ := n.kp.tab b ps e
      obtain ⟨e1, e2⟩ := minus_some e'
      exact ⟨ps', minus_of e1 fun z => (ow b z).elim (na e) e2, t⟩
  have own' : ∀ {b}, Own Z σ Γ b → b ≠ a := fun {b} z e => by
    obtain ⟨o, e1⟩ := k.own_some z
    rw [e, fr] at e1
    cases e1
  have tk : TK H' (minus Z (σ.set i (some (.ref a))) (Γ.set i (.o c)) H') := fun b o e h => minus_of e fun z => by
    rcases ow b z with z | z
    · rw [z, ha] at e
      cases e
      rw [(c.mu _ _ _ hc).1] at h
      cases h
    · rw [(n.ok.own_mut z e).1] at h
      cases h
  have key : ∀ {j d b}, (Γ.set i (.o c))[j]? = some (.o d) → (σ.set i (some (.ref a)))[j]? = some (some (.ref b)) → (j = i ∧ b = a) ∨ (i ≠ j ∧ ∃ d, Γ[j]? = some (.o d) ∧ σ[j]? = some (some (.ref b))) := fun {j d b} h1 h2 => by
    by_cases hj : i = j
    · subst hj
      rw [List.getElem?_set_self hl] at h2
      cases h2
      exact .inl ⟨rfl, rfl⟩
    · rw [List.getElem?_set_ne hj] at h1 h2
      exact .inr ⟨hj, d, h1, h2⟩
  refine ⟨⟨by rw [List.length_set, List.length_set]; exact k.len, fun j t e => ?_, fun j l d d' b e1 e2 e3 e4 => ?_, n.ok.zo, fun j d b e1 e2 z => ?_, fun P hP => kp.tabG (k.tb P hP)⟩, k.base.trans kp⟩
  · by_cases hj : i = j
    · subst hj
      have e' : t = .o c := by
        by_cases hg : i < Γ.length
        · rw [List.getElem?_set_self hg] at e
          exact (Option.some.inj e).symm
        · rw [List.getElem?_eq_none (by rw [List.length_set]; omega)] at e
          cases e
      subst e'
      exact ⟨_, by rw [List.getElem?_set_self hl], a, ob, rfl, ha, c.mono _ _ _ _ tk hc⟩
    · rw [List.getElem?_set_ne hj] at e ⊢
      obtain ⟨w, e1, q⟩ := n.ok.sl j t e
      obtain ⟨w', e1', q'⟩ := k.sl j t e
      rw [e1] at e1'
      cases e1'
      refine ⟨w, e1, ?_⟩
      cases t with
      | u => trivial
      | d d =>
        obtain ⟨x, e2, q⟩ := q'
        exact ⟨x, e2, q.k kp.tk⟩
      | p p =>
        obtain ⟨x, e2, q⟩ := q'
        exact ⟨x, e2, p.mono _ _ _ kp q⟩
      | o c =>
        obtain ⟨x, ob, e2, e3, q⟩ := q
        exact ⟨x, ob, e2, e3, c.mono _ _ _ _ (minus_keep.tk.trans tk) q⟩
  · rcases key e1 e3 with ⟨q1, q2⟩ | ⟨q1, d1, q2, q3⟩
    · rcases key e2 e4 with ⟨p1, p2⟩ | ⟨p1, d2, p2, p3⟩
      · rw [q1, p1]
      · exact absurd q2 (own' (.inr ⟨l, d2, p2, p3⟩))
    · rcases key e2 e4 with ⟨p1, p2⟩ | ⟨p1, d2, p2, p3⟩
      · exact absurd p2 (own' (.inr ⟨j, d1, q2, q3⟩))
      · exact k.dist j l d1 d2 b q2 p2 q3 p3
  · rcases key e1 e2 with ⟨q1, q2⟩ | ⟨q1, d1, q2, q3⟩
    · exact own' (.inl z) q2
    · exact k.zd j d1 b q2 q3 z
/-- one more thing is hidden: made since H, nobody's -/
theorem Nx.hide {ob : HO} (k : OkS K Z σ Γ H) (fr : H a = none) (hi : Im ob = false) (ht : NT ob = true) : OkS K (fun b => Z b ∨ b = a) σ Γ (upd H a ob) ∧ minus (fun b => Z b ∨ b = a) σ Γ (upd H a ob) = minus Z σ Γ H := by
  have na : ¬ Own Z σ Γ a := k.fresh fr
  have e : minus (fun b => Z b ∨ b = a) σ Γ (upd H a ob) = minus Z σ Γ H := by
    funext b
    unfold minus
    by_cases hb : b = a
    · subst hb
      rw [if_pos (.inl (.inr rfl)), if_neg na, fr]
    · rw [upd_ne hb]
      by_cases q : Own Z σ Γ b
      · rw [if_pos q, if_pos]
        rcases q with q | q
        · exact .inl (.inl q)
        · exact .inr q
      · rw [if_neg q, if_neg]
        rintro ((z | z) | z)
        · exact q (.inl z)
        · exact hb z
        · exact q (.inr z)
  refine ⟨⟨k.len, fun i s h => ?_, k.dist, fun b z => ?_, fun i c b h1 h2 z => ?_, fun P hP => by rw [e]; exact k.tb P hP⟩, e⟩
  · rw [e]
    obtain ⟨v, e1, q⟩ := k.sl i s h
    refine ⟨v, e1, ?_⟩
    cases s with
    | u => trivial
    | d d => exact q
    | p p => exact q
    | o c =>
      obtain ⟨x, o, e2, e3, q⟩ := q
      refine ⟨x, o, e2, ?_, q⟩
      rw [upd_ne fun z => na (.inr ⟨i, c, h, by rw [e1, e2, z]⟩)]
      exact e3
  · rcases z with z | z
    · obtain ⟨o, h, h1⟩ := k.zo b z
      exact ⟨o, by rw [upd_ne (ne_of_none h fr)]; exact h, h1⟩
    · subst z
      exact ⟨ob, upd_same, hi, ht⟩
  · rcases z with z | z
    · exact k.zd i c b h1 h2 z
    · subst z
      exact na (.inr ⟨i, c, h1, h2⟩)
/-- a hidden thing changes -/
theorem OkS.hid {ob : HO} (k : OkS K Z σ Γ H) (z : Z a) (hi : Im ob = false) (ht : NT ob = true) : OkS K Z σ Γ (upd H a ob) ∧ minus Z σ Γ (upd H a ob) = minus Z σ Γ H := by
  have e : minus Z σ Γ (upd H a ob) = minus Z σ Γ H := minus_upd_own (.inl z)
  refine ⟨⟨k.len, fun i s h => ?_, k.dist, fun b q => ?_, k.zd, fun P hP => by rw [e]; exact k.tb P hP⟩, e⟩
  · rw [e]
    obtain ⟨v, e1, q⟩ := k.sl i s h
    refine ⟨v, e1, ?_⟩
    cases s with
    | u => trivial
    | d d => exact q
    | p p => exact q
    | o c =>
      obtain ⟨x, o, e2, e3, q⟩ := q
      refine ⟨x, o, e2, ?_, q⟩
      rw [upd_ne fun w => k.zd i c a h (by rw [e1, e2, w]) z]
      exact e3
  · by_cases hb : b = a
    · subst hb
      exact ⟨ob, upd_same, hi, ht⟩
    · rw [upd_ne hb]
      exact k.zo b q
/-- the hidden thing shown again -/
theorem OkS.show {ob : HO} (k : OkS K (fun b => Z b ∨ b = a) σ Γ H) (h1 : H a = some ob) (nz : ¬ Z a) : OkS K Z σ Γ H ∧ Keep (minus (fun b => Z b ∨ b = a) σ Γ H) (minus Z σ Γ H) := by
  have kp : Keep (minus (fun b => Z b ∨ b = a) σ Γ H) (minus Z σ Γ H) := minus_less fun b q => by
    rcases q with q | q
    · exact .inl (.inl q)
    · exact .inr q
  refine ⟨⟨k.len, fun i s h => ?_, k.dist, fun b z => k.zo b (.inl z), fun i c b h1 h2 z => k.zd i c b h1 h2 (.inl z), fun P hP => kp.tabG (k.tb P hP)⟩, kp⟩
  obtain ⟨v, e1, q⟩ := k.sl i s h
  refine ⟨v, e1, ?_⟩
  cases s with
  | u => trivial
  | d d =>
    obtain ⟨x, e2, q⟩ := q
    exact ⟨x, e2, q.k kp.tk⟩
  | p p =>
    obtain ⟨x, e2, q⟩ := q
    exact ⟨x, e2, p.mono _ _ _ kp q⟩
  | o c =>
    obtain ⟨x, o, e2, e3, q⟩ := q
    exact ⟨x, o, e2, e3, c.mono _ _ _ _ kp.tk q⟩
end
end DL
end

section
set_option Elab.async false
set_option linter.all false
set_option maxRecDepth 100000
set_option maxHeartbeats 2000000
/-! D1: canonical readings of expressions. -/
namespace DL
open PySem PySem.Spec L2

/-- what a value is, by what stays -/
def RV (K : PySem.W.Frag) (B : Hp) : Sl → V → Prop
  | .u, _ => True
  | .d d, v => Dn K B d v
  | .p p, v => p.phi B v
  | .o _, _ => False
def RVs (K : PySem.W.Frag) (B : Hp) : List Sl → List V → Prop
  | [], vs => vs = []
  | s :: ss, vs => ∃ v r, vs = v :: r ∧ RV K B s v ∧ RVs K B ss r
section
variable {K : PySem.W.Frag} {B B' : Hp}
theorem RV.k {s : Sl} {v : V} (h : RV K B s v) (k : Keep B B') : RV K B' s v := by
  cases s with
  | u => trivial
  | d d => exact Dn.k h k.tk
  | p p => exact p.mono _ _ _ k h
  | o c => exact h
theorem RVs.k : ∀ {ss : List Sl} {vs : List V}, RVs K B ss vs → Keep B B' → RVs K B' ss vs
  | [], _, h, _ => h
  | _ :: _, _, ⟨v, r, e, h1, h2⟩, k => ⟨v, r, e, h1.k k, RVs.k h2 k⟩
end

def tR (K : PySem.W.Frag) (Γ : En) (s : Sl) : TE := fun σ H Q => ∃ Z, OkS K Z σ Γ H ∧ ∀ v H', Nx K Z σ Γ H H' → RV K (minus Z σ Γ H') s v → Q v H'
/-- some data with P -/
def tN (K : PySem.W.Frag) (Γ : En) (P : D → Prop) : TE := fun σ H Q => ∃ Z, OkS K Z σ Γ H ∧ ∀ d v H', P d → Nx K Z σ Γ H H' → Dn K (minus Z σ Γ H') d v → Q v H'
/-- a new cell -/
def tF (K : PySem.W.Frag) (Γ : En) (P : Ct → Prop) : TE := fun σ H Q => ∃ Z, OkS K Z σ Γ H ∧ ∀ c a ob H', P c → Nx K Z σ Γ H H' → H a = none → H' a = some ob → c.on a ob H' → Q (.ref a) H'
def tA (K : PySem.W.Frag) (Γ : En) (ss : List Sl) : TA := fun σ H Q => ∃ Z, OkS K Z σ Γ H ∧ ∀ vs H', Nx K Z σ Γ H H' → RVs K (minus Z σ Γ H') ss vs → Q vs H'
def tT (K : PySem.W.Frag) (Γ : En) (b : Bool) : TT := fun σ H Q => ∃ Z, OkS K Z σ Γ H ∧ ∀ H', Nx K Z σ Γ H H' → Q b H'
/-- a test, either way, with P -/
def tTN (K : PySem.W.Frag) (Γ : En) (P : Bool → Prop) : TT := fun σ H Q => ∃ Z, OkS K Z σ Γ H ∧ ∀ b H', P b → Nx K Z σ Γ H H' → Q b H'

section
variable {X : Cx} {K : PySem.W.Frag} {Γ : En} {a b c e : Expr} {es rest : List Expr} {pos p : Pos} {s s1 s2 : Sl} {d : D} {ss : List Sl} {te te' : TE} {tt tt' : TT} {ta ta' : TA}
theorem pe_imp (h : PE X e te) (w : ∀ σ H Q, te' σ H Q → te σ H Q) : PE X e te' := ⟨fun pins s σ H Q I q => h.run pins s σ H Q I (w σ H Q q)⟩
theorem pt_imp (h : PT X e tt) (w : ∀ σ H Q, tt' σ H Q → tt σ H Q) : PT X e tt' := ⟨fun pins s σ H Q I q => h.run pins s σ H Q I (w σ H Q q)⟩
theorem pw_imp (h : PW X e tt) (w : ∀ σ H Q, tt' σ H Q → tt σ H Q) : PW X e tt' := ⟨fun wh pins s σ H Q I q => h.run wh pins s σ H Q I (w σ H Q q)⟩
theorem pa_imp (h : PA X es ta) (w : ∀ σ H Q, ta' σ H Q → ta σ H Q) : PA X es ta' := ⟨fun pos pins s σ H Q I q => h.run pos pins s σ H Q I (w σ H Q q)⟩
theorem pe_cond {phi : Prop} (h : phi → PE X e te) : PE X e (fun σ H Q => phi ∧ te σ H Q) := ⟨fun pins s σ H Q I q => (h q.1).run pins s σ H Q I q.2⟩
theorem pt_cond {phi : Prop} (h : phi → PT X e tt) : PT X e (fun σ H Q => phi ∧ tt σ H Q) := ⟨fun pins s σ H Q I q => (h q.1).run pins s σ H Q I q.2⟩
theorem pw_cond {phi : Prop} (h : phi → PW X e tt) : PW X e (fun σ H Q => phi ∧ tt σ H Q) := ⟨fun wh pins s σ H Q I q => (h q.1).run wh pins s σ H Q I q.2⟩
/-- the value said in other words -/
theorem je_is {d' : D} (h : PE X e (tR K Γ (.d d))) (w : d = d') : PE X e (tR K Γ (.d d')) := w ▸ h
theorem jt_is {x y : Bool} (h : PT X e (tT K Γ x)) (w : x = y) : PT X e (tT K Γ y) := w ▸ h

/-! ### names, constants -/
theorem OkS.slot {Z : Hd} {σ : St} {H : Hp} {i : Nat} (k : OkS K Z σ Γ H) (h : Γ[i]? = some s) (hs : ∀ c, s ≠ .o c) (hu : s ≠ .u) : ∃ v, σ[i]? = some (some v) ∧ RV K (minus Z σ Γ H) s v := by
  obtain ⟨o, e, q⟩ := k.sl i s h
  cases s with
  | u => exact absurd rfl hu
  | d d =>
    obtain ⟨v, e2, q⟩ := q
    exact ⟨v, by rw [e, e2], q⟩
  | p p =>
    obtain ⟨v, e2, q⟩ := q
    exact ⟨v, by rw [e, e2], q⟩
  | o c => exact absurd rfl (hs c)
theorem je_varR (i : Nat) {x : Str} (hs : ∀ c, s ≠ .o c) (hu : s ≠ .u) (h : Γ[i]? = some s) (hN : X.N[i]? = some x) (hv : Vis X.env.scope x) (hd : (x == ("__debug__" : Str)) = false := by decide) (hcd : (x == ("__classdict__" : Str)) = false := by decide) :
    PE X (.Name x pos) (tR K Γ s) :=
  pe_imp (pe_var hN hv hd hcd) fun σ H Q q => by
    obtain ⟨Z, k, q⟩ := q
    obtain ⟨v, e, r⟩ := k.slot h hs hu
    exact ⟨v, e, q v H (Nx.refl k) r⟩
/-- the data in slot i -/
theorem jv (i : Nat) {x : Str} (h : Γ[i]? = some (.d d) := by rfl) (hN : X.N[i]? = some x := by rfl) (hv : Vis X.env.scope x := by first | exact Or.inl rfl | exact Or.inr (Or.inl rfl) | exact Or.inr (Or.inr rfl)) (hd : (x == ("__debug__" : Str)) = false := by decide)
    (hcd : (x == ("__classdict__" : Str)) = false := by decide) : PE X (.Name x pos) (tR K Γ (.d d)) := je_varR i (fun _ => by simp) (by simp) h hN hv hd hcd
/-- the persistent thing in slot i -/
theorem jvp (i : Nat) {x : Str} {p : Ps} (h : Γ[i]? = some (.p p) := by rfl) (hN : X.N[i]? = some x := by rfl) (hv : Vis X.env.scope x := by first | exact Or.inl rfl | exact Or.inr (Or.inl rfl) | exact Or.inr (Or.inr rfl)) (hd : (x == ("__debug__" : Str)) = false := by decide)
    (hcd : (x == ("__classdict__" : Str)) = false := by decide) : PE X (.Name x pos) (tR K Γ (.p p)) := je_varR i (fun _ => by simp) (by simp) h hN hv hd hcd
theorem je_c {v : V} (h : PE X e (tC v)) (r : ∀ B, RV K B s v) : PE X e (tR K Γ s) := pe_imp h fun σ H Q ⟨Z, k, q⟩ => q v H (Nx.refl k) (r _)
theorem je_int {i : Int} {j : Nat} : PE X (.Constant (.int i) j pos) (tR K Γ (.d (.i i))) := je_c pe_int fun _ => rfl
theorem je_bl {x : Bool} {j : Nat} : PE X (.Constant (.bool x) j pos) (tR K Γ (.d (.b x))) := je_c pe_bl fun _ => rfl
theorem je_non {j : Nat} : PE X (.Constant .none j pos) (tR K Γ (.d .non)) := je_c pe_non fun _ => rfl
theorem je_globI {x : Str} {n : Int} {t : Tok} (hg : Gl X x) (hm : X.mg x = some (.int n t)) (hd : (x == ("__debug__" : Str)) = false := by decide) : PE X (.Name x pos) (tR K Γ (.d (.i n))) := je_c (pe_glob (v := .int n) hg hm ⟨t, rfl⟩ hd) fun _ => rfl

/-! ### operators -/
/-- two operands by their data give d; new things may have come -/
def Op2 (K : PySem.W.Frag) (r : R2) (s1 s2 : Sl) (d : D) : Prop := ∀ (B H : Hp) (x y : V) (Q : VK), Keep B H → TK H B → RV K B s1 x → RV K B s2 y → (∀ v H', Keep H H' → Dn K H' d v → Q v H') → r x y H Q
def Op2F (K : PySem.W.Frag) (r : R2) (s1 s2 : Sl) (P : Ct → Prop) : Prop := ∀ (B H : Hp) (x y : V) (Q : VK), Keep B H → TK H B → RV K B s1 x → RV K B s2 y → (∀ c a ob H', P c → Keep H H' → H a = none → H' a = some ob → c.on a ob H' → Q (.ref a) H') → r x y H Q
theorem tOp_R {σ : St} {H : Hp} {Q : VK} {r : R2} (h : Op2 K r s1 s2 d) (q : tR K Γ (.d d) σ H Q) : tOp r (tR K Γ s1) (tR K Γ s2) σ H Q := by
  obtain ⟨Z, k, q⟩ := q
  refine ⟨Z, k, fun x H1 n1 r1 => ⟨Z, n1.ok, fun y H2 n2 r2 => ?_⟩⟩
  exact h (minus Z σ Γ H2) H2 x y Q minus_keep n2.ok.tk (r1.k n2.kp) r2 fun v H3 kp dv =>
    q v H3 ((n1.trans n2).trans (Nx.of_keep n2.ok kp)) (dv.k (n2.ok.keep kp).tk)
theorem tOp_F {σ : St} {H : Hp} {Q : VK} {r : R2} {P : Ct → Prop} (h : Op2F K r s1 s2 P) (q : tF K Γ P σ H Q) : tOp r (tR K Γ s1) (tR K Γ s2) σ H Q := by
  obtain ⟨Z, k, q⟩ := q
  refine ⟨Z, k, fun x H1 n1 r1 => ⟨Z, n1.ok, fun y H2 n2 r2 => ?_⟩⟩
  exact h (minus Z σ Γ H2) H2 x y Q minus_keep n2.ok.tk (r1.k n2.kp) r2 fun c a ob H3 hP kp fr ha on =>
    q c a ob H3 hP ((n1.trans n2).trans (Nx.of_keep n2.ok kp)) ((n1.trans n2).free fr) ha on
theorem je_op {op : Operator} {r : R2} (ho : OpR X (binaryOp op) r) (h : Op2 K r s1 s2 d) (ha : PE X a (tR K Γ s1)) (hb : PE X b (tR K Γ s2)) : PE X (.BinOp a op b pos) (tR K Γ (.d d)) := pe_imp (pe_op ho ha hb) fun _ _ _ q => tOp_R h q
theorem je_opF {op : Operator} {r : R2} {P : Ct → Prop} (ho : OpR X (binaryOp op) r) (h : Op2F K r s1 s2 P) (ha : PE X a (tR K Γ s1)) (hb : PE X b (tR K Γ s2)) : PE X (.BinOp a op b pos) (tF K Γ P) := pe_imp (pe_op ho ha hb) fun _ _ _ q => tOp_F h q
theorem je_cmp {op : CmpOp} {r : R2} (ho : OpR X (compareOp op) r) (h : Op2 K r s1 s2 d) (ha : PE X a (tR K Γ s1)) (hb : PE X b (tR K Γ s2)) (hm : behindInMarks op b = false) : PE X (.Compare a [op] [b] pos) (tR K Γ (.d d)) :=
  pe_imp (pe_cmpR ho ha hb hm) fun _ _ _ q => tOp_R h q
theorem tT_R {σ : St} {H : Hp} {Q : Bool → Hp → Prop} {x : Bool} (q : tT K Γ x σ H Q) : tR K Γ (.d (.b x)) σ H fun v H' => ∃ k, v = .bl k ∧ Q k H' := by
  obtain ⟨Z, k, q⟩ := q
  exact ⟨Z, k, fun v H' n e => ⟨x, e, q H' n⟩⟩
theorem jt_cmp {op : CmpOp} {r : R2} {x : Bool} (ho : OpR X (compareOp op) r) (h : Op2 K r s1 s2 (.b x)) (ha : PE X a (tR K Γ s1)) (hb : PE X b (tR K Γ s2)) (hm : behindInMarks op b = false) : PT X (.Compare a [op] [b] pos) (tT K Γ x) :=
  pt_imp (pt_cmpR ho ha hb hm) fun _ _ _ q => tOp_R h (tT_R q)
theorem je_un {op : UnaryOp} {g : Int → V} {n m : Int} (ho : UnR X (unaryOp op) (rU g)) (hg : g n = .int m) (ha : PE X a (tR K Γ (.d (.i n)))) : PE X (.UnaryOp op a pos) (tR K Γ (.d (.i m))) :=
  pe_imp (pe_un ho ha) fun σ H Q ⟨Z, k, q⟩ => ⟨Z, k, fun v H' n1 r1 => ⟨n, r1, by rw [hg]; exact q _ H' n1 rfl⟩⟩
theorem je_neg {n : Int} (ha : PE X a (tR K Γ (.d (.i n)))) : PE X (.UnaryOp .USub a pos) (tR K Γ (.d (.i (-n)))) := je_un un_neg rfl ha

theorem o2_I0 {g : Int → Int → Int} {x y : Int} : Op2 K (rI0 fun i j => .int (g i j)) (.d (.i x)) (.d (.i y)) (.i (g x y)) := fun B H v w Q _ _ h1 h2 q => ⟨x, y, h1, h2, q _ H (Keep.refl H) rfl⟩
theorem o2_IB {g : Int → Int → Bool} {x y : Int} : Op2 K (rI0 fun i j => .bl (g i j)) (.d (.i x)) (.d (.i y)) (.b (g x y)) := fun B H v w Q _ _ h1 h2 q => ⟨x, y, h1, h2, q _ H (Keep.refl H) rfl⟩
theorem o2_I {C : Int → Int → Prop} {g : Int → Int → Int} {x y : Int} (hc : C x y) : Op2 K (rI C fun i j => .int (g i j)) (.d (.i x)) (.d (.i y)) (.i (g x y)) := fun B H v w Q _ _ h1 h2 q => ⟨x, y, h1, h2, hc, q _ H (Keep.refl H) rfl⟩
theorem je_add {x y : Int} (ha : PE X a (tR K Γ (.d (.i x)))) (hb : PE X b (tR K Γ (.d (.i y)))) : PE X (.BinOp a .Add b pos) (tR K Γ (.d (.i (x + y)))) := je_op op_add o2_I0 ha hb
theorem je_sub {x y : Int} (ha : PE X a (tR K Γ (.d (.i x)))) (hb : PE X b (tR K Γ (.d (.i y)))) : PE X (.BinOp a .Sub b pos) (tR K Γ (.d (.i (x - y)))) := je_op op_sub o2_I0 ha hb
theorem je_mul {x y : Int} (hc : CMul x y) (ha : PE X a (tR K Γ (.d (.i x)))) (hb : PE X b (tR K Γ (.d (.i y)))) : PE X (.BinOp a .Mult b pos) (tR K Γ (.d (.i (x * y)))) := je_op op_mul (o2_I hc) ha hb
theorem je_mod {x y : Int} (hc : 0 < y) (ha : PE X a (tR K Γ (.d (.i x)))) (hb : PE X b (tR K Γ (.d (.i y)))) : PE X (.BinOp a .Mod b pos) (tR K Γ (.d (.i (x % y)))) := je_op op_mod (o2_I hc) ha hb
theorem je_lt {x y : Int} (ha : PE X a (tR K Γ (.d (.i x)))) (hb : PE X b (tR K Γ (.d (.i y)))) : PE X (.Compare a [.Lt] [b] pos) (tR K Γ (.d (.b (decide (x < y))))) := je_cmp op_lt o2_IB ha hb (nomark _)
theorem je_le {x y : Int} (ha : PE X a (tR K Γ (.d (.i x)))) (hb : PE X b (tR K Γ (.d (.i y)))) : PE X (.Compare a [.LtE] [b] pos) (tR K Γ (.d (.b (decide (x ≤ y))))) := je_cmp op_le o2_IB ha hb (nomark _)
theorem je_gt {x y : Int} (ha : PE X a (tR K Γ (.d (.i x)))) (hb : PE X b (tR K Γ (.d (.i y)))) : PE X (.Compare a [.Gt] [b] pos) (tR K Γ (.d (.b (decide (y < x))))) := je_cmp op_gt o2_IB ha hb (nomark _)
theorem je_ge {x y : Int} (ha : PE X a (tR K Γ (.d (.i x)))) (hb : PE X b (tR K Γ (.d (.i y)))) : PE X (.Compare a [.GtE] [b] pos) (tR K Γ (.d (.b (decide (y ≤ x))))) := je_cmp op_ge o2_IB ha hb (nomark _)
theorem jt_lt {x y : Int} (ha : PE X a (tR K Γ (.d (.i x)))) (hb : PE X b (tR K Γ (.d (.i y)))) : PT X (.Compare a [.Lt] [b] pos) (tT K Γ (decide (x < y))) := jt_cmp op_lt o2_IB ha hb (nomark _)
theorem jt_le {x y : Int} (ha : PE X a (tR K Γ (.d (.i x)))) (hb : PE X b (tR K Γ (.d (.i y)))) : PT X (.Compare a [.LtE] [b] pos) (tT K Γ (decide (x ≤ y))) := jt_cmp op_le o2_IB ha hb (nomark _)
theorem jt_gt {x y : Int} (ha : PE X a (tR K Γ (.d (.i x)))) (hb : PE X b (tR K Γ (.d (.i y)))) : PT X (.Compare a [.Gt] [b] pos) (tT K Γ (decide (y < x))) := jt_cmp op_gt o2_IB ha hb (nomark _)
theorem jt_ge {x y : Int} (ha : PE X a (tR K Γ (.d (.i x)))) (hb : PE X b (tR K Γ (.d (.i y)))) : PT X (.Compare a [.GtE] [b] pos) (tT K Γ (decide (y ≤ x))) := jt_cmp op_ge o2_IB ha hb (nomark _)
theorem o2_eqI {x y : Int} : Op2 K rEq (.d (.i x)) (.d (.i y)) (.b (decide (x = y))) := fun B H v w Q _ _ h1 h2 q => by
  have h1 : v = .int x := h1
  have h2 : w = .int y := h2
  subst h1; subst h2
  refine ⟨rfl, ?_⟩
  rw [show decide (V.int x = V.int y) = decide (x = y) from decide_eq_decide.mpr ⟨V.int.inj, congrArg _⟩]
  exact q _ H (Keep.refl H) rfl
theorem o2_neI {x y : Int} : Op2 K rNe (.d (.i x)) (.d (.i y)) (.b (!decide (x = y))) := fun B H v w Q _ _ h1 h2 q => by
  have h1 : v = .int x := h1
  have h2 : w = .int y := h2
  subst h1; subst h2
  refine ⟨rfl, ?_⟩
  rw [show decide (V.int x = V.int y) = decide (x = y) from decide_eq_decide.mpr ⟨V.int.inj, congrArg _⟩]
  exact q _ H (Keep.refl H) rfl
theorem o2_eqB {x y : Bool} : Op2 K rEq (.d (.b x)) (.d (.b y)) (.b (decide (x = y))) := fun B H v w Q _ _ h1 h2 q => by
  have h1 : v = .bl x := h1
  have h2 : w = .bl y := h2
  subst h1; subst h2
  refine ⟨rfl, ?_⟩
  rw [show decide (V.bl x = V.bl y) = decide (x = y) from decide_eq_decide.mpr ⟨V.bl.inj, congrArg _⟩]
  exact q _ H (Keep.refl H) rfl
theorem o2_neB {x y : Bool} : Op2 K rNe (.d (.b x)) (.d (.b y)) (.b (!decide (x = y))) := fun B H v w Q _ _ h1 h2 q => by
  have h1 : v = .bl x := h1
  have h2 : w = .bl y := h2
  subst h1; subst h2
  refine ⟨rfl, ?_⟩
  rw [show decide (V.bl x = V.bl y) = decide (x = y) from decide_eq_decide.mpr ⟨V.bl.inj, congrArg _⟩]
  exact q _ H (Keep.refl H) rfl
theorem je_eqI {x y : Int} (ha : PE X a (tR K Γ (.d (.i x)))) (hb : PE X b (tR K Γ (.d (.i y)))) : PE X (.Compare a [.Eq] [b] pos) (tR K Γ (.d (.b (decide (x = y))))) := je_cmp op_eq o2_eqI ha hb (nomark _)
theorem jt_eqI {x y : Int} (ha : PE X a (tR K Γ (.d (.i x)))) (hb : PE X b (tR K Γ (.d (.i y)))) : PT X (.Compare a [.Eq] [b] pos) (tT K Γ (decide (x = y))) := jt_cmp op_eq o2_eqI ha hb (nomark _)
theorem je_neI {x y : Int} (ha : PE X a (tR K Γ (.d (.i x)))) (hb : PE X b (tR K Γ (.d (.i y)))) : PE X (.Compare a [.NotEq] [b] pos) (tR K Γ (.d (.b (!decide (x = y))))) := je_cmp op_ne o2_neI ha hb (nomark _)
theorem jt_neI {x y : Int} (ha : PE X a (tR K Γ (.d (.i x)))) (hb : PE X b (tR K Γ (.d (.i y)))) : PT X (.Compare a [.NotEq] [b] pos) (tT K Γ (!decide (x = y))) := jt_cmp op_ne o2_neI ha hb (nomark _)
/-- a bool as a test -/
theorem jt_val {x : Bool} (h : PE X e (tR K Γ (.d (.b x)))) (he : ∀ whole, isTrue e X.env whole = (do let v ← whole; standAt e.pos; holding [v] (truthy v)) := by intro _; rfl) : PT X e (tT K Γ x) :=
  pt_imp (pt_val h he) fun _ _ _ q => tT_R q
/-- is None -/
theorem je_isN {x : Bool} (ha : PE X a (tR K Γ s)) (hx : ∀ B v, RV K B s v → decide (v = V.non) = x) {j : Nat} {p2 : Pos} : PE X (.Compare a [.Is] [.Constant .none j p2] pos) (tR K Γ (.d (.b x))) :=
  pe_imp (pe_cmp (pc_isN ha) rfl) fun σ H Q ⟨Z, k, q⟩ => ⟨Z, k, fun v H' n r => by show Q (.bl (decide (v = .non))) H'; rw [hx _ v r]; exact q _ H' n rfl⟩
theorem je_notN {x : Bool} (ha : PE X a (tR K Γ s)) (hx : ∀ B v, RV K B s v → decide (v = V.non) = x) {j : Nat} {p2 : Pos} : PE X (.Compare a [.IsNot] [.Constant .none j p2] pos) (tR K Γ (.d (.b (!x)))) :=
  pe_imp (pe_cmp (pc_notN ha) rfl) fun σ H Q ⟨Z, k, q⟩ => ⟨Z, k, fun v H' n r => by show Q (.bl (!decide (v = .non))) H'; rw [hx _ v r]; exact q _ H' n rfl⟩
/-- is this data None? -/
def D.isNon : D → Bool
  | .non => true
  | _ => false
theorem isNon_V {B : Hp} {v : V} (h : RV K B (.d d) v) : decide (v = V.non) = d.isNon := by
  cases d with
  | non => rw [show v = V.non from h]; rfl
  | b x => rw [show v = V.bl x from h]; rfl
  | i x => rw [show v = V.int x from h]; rfl
  | t x =>
    obtain ⟨a, vs, e, _⟩ := h
    rw [e]
    rfl
  | c x =>
    obtain ⟨a, e, _⟩ := h
    rw [e]
    rfl
  | s x =>
    obtain ⟨a, e, _⟩ := h
    rw [e]
    rfl

/-! ### and, or, not, if -/
theorem je_and {x y : Bool} (ha : PE X a (tR K Γ (.d (.b x)))) (hb : x = true → PE X (.BoolOp .And (b :: rest) pos) (tR K Γ (.d (.b y)))) : PE X (.BoolOp .And (a :: b :: rest) pos) (tR K Γ (.d (.b (x && y)))) :=
  pe_imp (pe_and ha (pe_cond hb)) fun σ H Q ⟨Z, k, q⟩ => ⟨Z, k, fun v H' n r => ⟨x, r, by
    cases x with
    | true =>
      rw [if_pos rfl]
      exact ⟨rfl, Z, n.ok, fun v2 H2 n2 r2 => q v2 H2 (n.trans n2) r2⟩
    | false =>
      rw [if_neg Bool.false_ne_true]
      exact q _ H' n rfl⟩⟩
theorem je_or {x y : Bool} (ha : PE X a (tR K Γ (.d (.b x)))) (hb : x = false → PE X (.BoolOp .Or (b :: rest) pos) (tR K Γ (.d (.b y)))) : PE X (.BoolOp .Or (a :: b :: rest) pos) (tR K Γ (.d (.b (x || y)))) :=
  pe_imp (pe_or ha (pe_cond hb)) fun σ H Q ⟨Z, k, q⟩ => ⟨Z, k, fun v H' n r => ⟨x, r, by
    cases x with
    | true =>
      rw [if_pos rfl]
      exact q _ H' n rfl
    | false =>
      rw [if_neg Bool.false_ne_true]
      exact ⟨rfl, Z, n.ok, fun v2 H2 n2 r2 => q v2 H2 (n.trans n2) r2⟩⟩⟩
theorem je_one {op : BoolOp} (h : PE X a te) : PE X (.BoolOp op [a] pos) te := pe_one h
theorem je_not {x : Bool} (ha : PE X a (tR K Γ (.d (.b x)))) : PE X (.UnaryOp .Not a pos) (tR K Γ (.d (.b (!x)))) :=
  pe_imp (pe_not ha) fun σ H Q ⟨Z, k, q⟩ => ⟨Z, k, fun v H' n r => ⟨x, r, q _ H' n rfl⟩⟩
theorem jw_and {x y : Bool} (ha : PT X a (tT K Γ x)) (hb : x = true → PW X (.BoolOp .And (b :: rest) pos) (tT K Γ y)) : PW X (.BoolOp .And (a :: b :: rest) pos) (tT K Γ (x && y)) :=
  pw_imp (pw_and ha (pw_cond hb)) fun σ H Q ⟨Z, k, q⟩ => ⟨Z, k, fun H' n => by
    cases x with
    | true =>
      rw [if_pos rfl]
      exact ⟨rfl, Z, n.ok, fun H2 n2 => q H2 (n.trans n2)⟩
    | false =>
      rw [if_neg Bool.false_ne_true]
      exact q H' n⟩
theorem jw_or {x y : Bool} (ha : PT X a (tT K Γ x)) (hb : x = false → PW X (.BoolOp .Or (b :: rest) pos) (tT K Γ y)) : PW X (.BoolOp .Or (a :: b :: rest) pos) (tT K Γ (x || y)) :=
  pw_imp (pw_or ha (pw_cond hb)) fun σ H Q ⟨Z, k, q⟩ => ⟨Z, k, fun H' n => by
    cases x with
    | true =>
      rw [if_pos rfl]
      exact q H' n
    | false =>
      rw [if_neg Bool.false_ne_true]
      exact ⟨rfl, Z, n.ok, fun H2 n2 => q H2 (n.trans n2)⟩⟩
theorem jw_and1 {x : Bool} (ha : PT X a (tT K Γ x)) : PW X (.BoolOp .And [a] pos) (tT K Γ x) := pw_and1 ha
theorem jw_or1 {x : Bool} (ha : PT X a (tT K Γ x)) : PW X (.BoolOp .Or [a] pos) (tT K Γ x) := pw_or1 ha
theorem jt_not {x : Bool} (ha : PT X a (tT K Γ x)) : PT X (.UnaryOp .Not a pos) (tT K Γ (!x)) := pt_imp (pt_not ha) fun σ H Q q => q
theorem je_if {x : Bool} (hc : PT X c (tT K Γ x)) (ha : x = true → PE X a (tR K Γ s)) (hb : x = false → PE X b (tR K Γ s)) : PE X (.IfExp c a b pos) (tR K Γ s) :=
  pe_imp (pe_ifExp hc (pe_cond ha) (pe_cond hb)) fun σ H Q ⟨Z, k, q⟩ => ⟨Z, k, fun H' n => by
    cases x with
    | true =>
      rw [if_pos rfl]
      exact ⟨rfl, Z, n.ok, fun v2 H2 n2 r2 => q v2 H2 (n.trans n2) r2⟩
    | false =>
      rw [if_neg Bool.false_ne_true]
      exact ⟨rfl, Z, n.ok, fun v2 H2 n2 r2 => q v2 H2 (n.trans n2) r2⟩⟩
theorem je_ifF {x : Bool} {P : Ct → Prop} (hc : PT X c (tT K Γ x)) (ha : x = true → PE X a (tF K Γ P)) (hb : x = false → PE X b (tF K Γ P)) : PE X (.IfExp c a b pos) (tF K Γ P) :=
  pe_imp (pe_ifExp hc (pe_cond ha) (pe_cond hb)) fun σ H Q ⟨Z, k, q⟩ => ⟨Z, k, fun H' n => by
    cases x with
    | true =>
      rw [if_pos rfl]
      exact ⟨rfl, Z, n.ok, fun c2 a2 ob H2 hP n2 fr ha on => q c2 a2 ob H2 hP (n.trans n2) (n.free fr) ha on⟩
    | false =>
      rw [if_neg Bool.false_ne_true]
      exact ⟨rfl, Z, n.ok, fun c2 a2 ob H2 hP n2 fr ha on => q c2 a2 ob H2 hP (n.trans n2) (n.free fr) ha on⟩⟩
/-- low <= x <= high -/
theorem je_chain {op op' : CmpOp} {r r' : R2} {s3 : Sl} {x y : Bool} (ho : OpR X (compareOp op) r) (ho' : OpR X (compareOp op') r') (h1 : Op2 K r s1 s2 (.b x)) (h2 : Op2 K r' s2 s3 (.b y)) (ha : PE X a (tR K Γ s1)) (hb : PE X b (tR K Γ s2)) (hc : PE X c (tR K Γ s3))
    (hm : lastMarks [op, op'] [b, c] = false := by with_unfolding_all rfl) : PE X (.Compare a [op, op'] [b, c] pos) (tR K Γ (.d (.b (x && y)))) := by
  refine pe_imp (pe_chain ho ho' ha hb hc hm) fun σ H Q ⟨Z, k, q⟩ => ⟨Z, k, fun v1 H1 n1 r1 => ⟨Z, n1.ok, fun v2 H2 n2 r2 => ?_⟩⟩
  refine h1 (minus Z σ Γ H2) H2 v1 v2 _ minus_keep n2.ok.tk (r1.k n2.kp) r2 fun z H3 kp e => ⟨x, e, ?_⟩
  have n3 := Nx.of_keep n2.ok kp
  cases x with
  | true =>
    rw [if_pos rfl]
    refine ⟨Z, n3.ok, fun v4 H4 n4 r4 => ?_⟩
    refine h2 (minus Z σ Γ H4) H4 v2 v4 _ minus_keep n4.ok.tk (r2.k (n3.kp.trans n4.kp)) r4 fun z H5 kp5 e5 => ?_
    exact q z H5 ((((n1.trans n2).trans n3).trans n4).trans (Nx.of_keep n4.ok kp5)) e5
  | false =>
    rw [if_neg Bool.false_ne_true]
    exact q _ H3 ((n1.trans n2).trans n3) rfl
end
end DL
end

section
set_option Elab.async false
set_option linter.all false
set_option maxRecDepth 100000
set_option maxHeartbeats 2000000
/-! D2: lists, tuples, calls of built-ins, calls of defs. -/
namespace DL
open PySem PySem.Spec L2

/-- a list that stays -/
def pl (K : PySem.W.Frag) (ds : List D) : Ps := ⟨fun H v => ∃ a vs, v = .ref a ∧ SqL K H a vs ∧ Dns K H ds vs, fun _ _ _ k ⟨a, vs, e, h1, h2⟩ => ⟨a, vs, e, k.seqL h1, h2.k k.tk⟩⟩
/-- an owned list -/
def cl (K : PySem.W.Frag) (ds : List D) : Ct := ⟨fun _ o H => ∃ vs, o = .lst vs ∧ Dns K H ds vs, fun _ _ _ _ k ⟨vs, e, h⟩ => ⟨vs, e, h.k k⟩, fun _ o H ⟨vs, e, _⟩ => by subst e; exact ⟨rfl, rfl⟩⟩

section
variable {X : Cx} {K : PySem.W.Frag} {Γ : En} {a b c e : Expr} {es rest : List Expr} {pos p : Pos} {s s1 s2 : Sl} {d : D} {ss : List Sl} {ds xs ys : List D} {te te' : TE} {tt tt' : TT} {ta ta' : TA}
/-- a new list, read on -/
theorem je_fp (h : PE X e (tF K Γ (· = cl K ds))) : PE X e (tR K Γ (.p (pl K ds))) :=
  pe_imp h fun σ H Q ⟨Z, k, q⟩ => ⟨Z, k, fun c a ob H' hc n fr ha on => by
    subst hc
    obtain ⟨vs, e, r⟩ := on
    subst e
    exact q _ H' n ⟨a, vs, rfl, SqL.of (minus_of ha (k.fresh fr)), r.k n.ok.tk⟩⟩
theorem rvs_d : ∀ {ds : List D} {B : Hp} {vs : List V}, RVs K B (ds.map .d) vs → Dns K B ds vs
  | [], _, _, h => h
  | _ :: _, _, _, ⟨v, r, e, h1, h2⟩ => ⟨v, r, e, h1, rvs_d h2⟩
theorem ja_nil : PA X [] (tA K Γ []) := pa_imp pa_nil fun σ H Q ⟨Z, k, q⟩ => q [] H (Nx.refl k) rfl
theorem ja_cons (h : PE X e (tR K Γ s)) (r : PA X es (tA K Γ ss)) (hs : starEach (e :: es) X.env = (false, eval e X.env) :: starEach es X.env := by rfl) : PA X (e :: es) (tA K Γ (s :: ss)) :=
  pa_imp (pa_cons h r hs) fun σ H Q ⟨Z, k, q⟩ => ⟨Z, k, fun v H1 n1 r1 => ⟨Z, n1.ok, fun vs H2 n2 r2 => q (v :: vs) H2 (n1.trans n2) ⟨v, vs, rfl, r1.k n2.kp, r2⟩⟩⟩
theorem RVs.len : ∀ {ss : List Sl} {B : Hp} {vs : List V}, RVs K B ss vs → vs.length = ss.length
  | [], _, _, h => by
    rw [show _ = [] from h]
    rfl
  | _ :: _, _, _, ⟨v, r, e, h1, h2⟩ => by
    rw [e, List.length_cons, List.length_cons, RVs.len h2]
theorem je_tup {k : Nat} (h : PA X es (tA K Γ (ds.map .d))) (hl : ds.length ≤ 100000 := by simp) : PE X (.Tuple es k pos) (tR K Γ (.d (.t ds))) :=
  pe_imp (pe_tup h) fun σ H Q ⟨Z, k, q⟩ => ⟨Z, k, fun vs H1 n r => by
    have r' := rvs_d r
    refine ⟨by rw [r'.len]; exact Nat.le_trans hl (by decide), fun t ht => ?_⟩
    have n2 : Nx K Z σ Γ H1 (upd H1 t (.tup vs)) := Nx.new n.ok ht
    refine q _ _ (n.trans n2) ⟨t, vs, rfl, ?_, r'.k n2.kp.tk⟩
    exact minus_of upd_same (n.ok.fresh ht)⟩
theorem je_lst (h : PA X es (tA K Γ (ds.map .d))) (hl : ds.length ≤ 100000 := by simp) : PE X (.List es pos) (tF K Γ (· = cl K ds)) :=
  pe_imp (pe_lst h) fun σ H Q ⟨Z, k, q⟩ => ⟨Z, k, fun vs H1 n r => by
    have r' := rvs_d r
    refine ⟨by rw [r'.len]; exact Nat.le_trans hl (by decide), fun t ht => ?_⟩
    have n2 : Nx K Z σ Γ H1 (upd H1 t (.lst vs)) := Nx.new n.ok ht
    exact q _ t _ _ rfl (n.trans n2) (n.free ht) upd_same ⟨vs, rfl, r'.k (minus_keep.tk.trans (Keep.new ht).tk)⟩⟩

/-! ### subscripts, slices -/
theorem Dns.atI {H : Hp} {vs : List V} {i : Int} (h : Dns K H ds vs) (e : L2.atI ds i = some d) : ∃ v, L2.atI vs i = some v ∧ Dn K H d v := by
  unfold L2.atI at e ⊢
  obtain ⟨j, h1, h2⟩ := Option.bind_eq_some_iff.mp e
  obtain ⟨v, h3, h4⟩ := h.at h2
  rw [h.len, h1]
  exact ⟨v, h3, h4⟩
theorem o2_ixT {i : Int} (h : L2.atI ds i = some d) : Op2 K (rIxT K) (.d (.t ds)) (.d (.i i)) d := fun B H x y Q kb tk h1 h2 q => by
  obtain ⟨a, vs, e1, h1, h3⟩ := h1
  obtain ⟨v, h4, h5⟩ := h3.atI h
  exact ⟨a, vs, i, v, e1, h2, SqT.of (kb.tk _ _ h1 rfl), h4, q v H (Keep.refl H) (h5.k kb.tk)⟩
theorem o2_ixL {i : Int} (h : L2.atI ds i = some d) : Op2 K (rIxL K) (.p (pl K ds)) (.d (.i i)) d := fun B H x y Q kb tk h1 h2 q => by
  obtain ⟨a, vs, e1, h1, h3⟩ := h1
  obtain ⟨v, h4, h5⟩ := h3.atI h
  exact ⟨a, vs, i, v, e1, h2, kb.seqL h1, h4, q v H (Keep.refl H) (h5.k kb.tk)⟩
theorem je_ixR {r : R2} (ho : IxR X r) (h : Op2 K r s1 s2 d) (ha : PE X a (tR K Γ s1)) (hb : PE X b (tR K Γ s2)) (hs : PlainIx b) : PE X (.Subscript a b pos) (tR K Γ (.d d)) := pe_imp (pe_ix ho ha hb hs) fun _ _ _ q => tOp_R h q
/-- t[i] -/
theorem je_ix {i : Int} (ha : PE X a (tR X.K Γ (.d (.t ds)))) (hb : PE X b (tR X.K Γ (.d (.i i)))) (h : L2.atI ds i = some d := by rfl) (hs : PlainIx b := by exact fun _ _ => rfl) : PE X (.Subscript a b pos) (tR X.K Γ (.d d)) := je_ixR ix_tup (o2_ixT h) ha hb hs
/-- xs[i] -/
theorem je_ixl {i : Int} (ha : PE X a (tR X.K Γ (.p (pl X.K ds)))) (hb : PE X b (tR X.K Γ (.d (.i i)))) (h : L2.atI ds i = some d := by rfl) (hs : PlainIx b := by exact fun _ _ => rfl) : PE X (.Subscript a b pos) (tR X.K Γ (.d d)) := je_ixR ix_list (o2_ixL h) ha hb hs
/-- t[lo:hi] of a tuple -/
theorem Dns.cut {H : Hp} {vs : List V} (h : Dns K H ds vs) (lo hi : Option Int) : Dns K H ((ds.drop (HT.sIx ds.length 0 lo)).take (HT.sIx ds.length ds.length hi - HT.sIx ds.length 0 lo)) (cutV vs lo hi) := by
  unfold cutV
  rw [h.len]
  exact Dns.take _ (Dns.drop _ h)
def cutD (ds : List D) (lo hi : Option Int) : List D := (ds.drop (HT.sIx ds.length 0 lo)).take (HT.sIx ds.length ds.length hi - HT.sIx ds.length 0 lo)
theorem cutD_all (lo hi : Option Int) (h : HT.sIx ds.length 0 lo = 0 ∧ HT.sIx ds.length ds.length hi = ds.length) : cutD ds lo hi = ds := by
  unfold cutD
  rw [h.1, h.2, List.drop_zero, Nat.sub_zero, List.take_length]
theorem je_sl {lo hi : Option Expr} {p2 : Pos} {l u : Option Int} {tl th : TO} (ha : PE X a (tR X.K Γ (.d (.t ds)))) (hl : PO X lo tl) (hh : PO X hi th)
    (wl : ∀ (Z : Hd) (σ : St) (H : Hp) (Q : Option Int → Hp → Prop), OkS X.K Z σ Γ H → (∀ H', Nx X.K Z σ Γ H H' → Q l H') → tl σ H Q) (wh : ∀ (Z : Hd) (σ : St) (H : Hp) (Q : Option Int → Hp → Prop), OkS X.K Z σ Γ H → (∀ H', Nx X.K Z σ Γ H H' → Q u H') → th σ H Q) :
    PE X (.Subscript a (.Slice lo hi none p2) pos) (tR X.K Γ (.d (.t (cutD ds l u)))) :=
  pe_imp (pe_slice sl_tupA ha hl hh) fun σ H Q ⟨Z, k, q⟩ => ⟨Z, k, fun v H1 n1 r1 => wl Z σ H1 _ n1.ok fun H2 n2 => wh Z σ H2 _ n2.ok fun H3 n3 => by
    obtain ⟨t, vs, e, h1, h2⟩ := r1
    have kp := n2.kp.trans n3.kp
    have h3 := (h2.k kp.tk)
    have ht := kp.tk _ _ h1 rfl
    refine ⟨t, vs, e, SqT.of (minus_keep.tk _ _ ht rfl), fun w => ?_, fun w p hp => ?_⟩
    · rw [h2.len] at w
      rw [cutD_all l u w] at q
      exact q _ H3 ((n1.trans n2).trans n3) ⟨t, vs, rfl, ht, h3⟩
    · have n4 : Nx X.K Z σ Γ H3 (upd H3 p (.tup (cutV vs l u))) := Nx.new n3.ok hp
      exact q _ _ (((n1.trans n2).trans n3).trans n4) ⟨p, _, rfl, minus_of upd_same (n3.ok.fresh hp), (h3.cut l u).k n4.kp.tk⟩⟩
theorem jo_none (Z : Hd) (σ : St) (H : Hp) (Q : Option Int → Hp → Prop) (k : OkS K Z σ Γ H) (q : ∀ H', Nx K Z σ Γ H H' → Q none H') : tNoPart σ H Q := q H (Nx.refl k)
theorem jo_some {n : Int} (Z : Hd) (σ : St) (H : Hp) (Q : Option Int → Hp → Prop) (k : OkS K Z σ Γ H) (q : ∀ H', Nx K Z σ Γ H H' → Q (some n) H') : tPart (tR K Γ (.d (.i n))) σ H Q := ⟨Z, k, fun v H' n' r => ⟨n, r, q H' n'⟩⟩
/-- t[n:] -/
theorem je_from {n : Int} {p2 : Pos} (ha : PE X a (tR X.K Γ (.d (.t ds)))) (hb : PE X b (tR X.K Γ (.d (.i n)))) : PE X (.Subscript a (.Slice (some b) none none p2) pos) (tR X.K Γ (.d (.t (cutD ds (some n) none)))) := je_sl ha (po_some hb) po_none jo_some jo_none
/-- t[:n] -/
theorem je_to {n : Int} {p2 : Pos} (ha : PE X a (tR X.K Γ (.d (.t ds)))) (hb : PE X b (tR X.K Γ (.d (.i n)))) : PE X (.Subscript a (.Slice none (some b) none p2) pos) (tR X.K Γ (.d (.t (cutD ds none (some n))))) := je_sl ha po_none (po_some hb) jo_none jo_some

/-! ### tuple + tuple, list + list -/
theorem je_cat (ha : PE X a (tR X.K Γ (.d (.t xs)))) (hb : PE X b (tR X.K Γ (.d (.t ys)))) (hz : xs.length + ys.length ≤ 100000) : PE X (.BinOp a .Add b pos) (tR X.K Γ (.d (.t (xs ++ ys)))) :=
  je_op op_catA (fun B H v w Q kb tk h1 h2 q => by
    obtain ⟨t, vs, e1, h1, h3⟩ := h1
    obtain ⟨u, ws, e2, h2, h4⟩ := h2
    have h5 := h3.k kb.tk
    have h6 := h4.k kb.tk
    have t1 := kb.tk _ _ h1 rfl
    have t2 := kb.tk _ _ h2 rfl
    refine ⟨t, u, vs, ws, e1, e2, SqT.of t1, SqT.of t2, by rw [h3.len, h4.len]; exact Nat.le_trans hz (by decide), fun z => ?_, fun z z' => ?_, fun z z' p hp => ?_⟩
    · subst z
      have e : xs = [] := List.eq_nil_of_length_eq_zero h3.len.symm
      subst e
      exact q _ H (Keep.refl H) ⟨u, ws, rfl, t2, h6⟩
    · subst z'
      have e : ys = [] := List.eq_nil_of_length_eq_zero h4.len.symm
      subst e
      rw [List.append_nil] at q
      exact q _ H (Keep.refl H) ⟨t, vs, rfl, t1, h5⟩
    · exact q _ _ (Keep.new hp) ⟨p, _, rfl, upd_same, (h5.append h6).k (Keep.new hp).tk⟩) ha hb
/-- both lists new, or read -/
theorem tL_of {Z : Hd} {σ : St} {H : Hp} {Q : VK} (q : ∀ v H', Nx K Z σ Γ H H' → (∃ a vs, v = .ref a ∧ minus Z σ Γ H' a = some (.lst vs) ∧ Dns K (minus Z σ Γ H') ds vs) → Q v H') (k : OkS K Z σ Γ H) : tF K Γ (· = cl K ds) σ H Q :=
  ⟨Z, k, fun c a ob H' hc n fr ha on => by
    subst hc
    obtain ⟨vs, e, r⟩ := on
    subst e
    exact q _ H' n ⟨a, vs, rfl, minus_of ha (k.fresh fr), r.k n.ok.tk⟩⟩
/-- xs + ys: both new -/
theorem je_catF (ha : PE X a (tF X.K Γ (· = cl X.K xs))) (hb : PE X b (tF X.K Γ (· = cl X.K ys))) (hz : xs.length + ys.length ≤ 100000) : PE X (.BinOp a .Add b pos) (tF X.K Γ (· = cl X.K (xs ++ ys))) :=
  pe_imp (pe_op op_cat ha hb) fun σ H Q ⟨Z, k, q⟩ => tL_of (fun v H1 n1 ⟨t, vs, e1, h1, h2⟩ => tL_of (fun w H2 n2 ⟨u, ws, e2, h3, h4⟩ => by
    have h5 := n2.kp.obj _ _ h1 rfl
    have h6 := h2.k n2.kp.tk
    refine ⟨t, u, vs, ws, e1, e2, (minus_some h5).1, (minus_some h3).1, by rw [h2.len, h4.len]; exact Nat.le_trans hz (by decide), fun p hp => ?_⟩
    have n3 : Nx X.K Z σ Γ H2 (upd H2 p (.lst (vs ++ ws))) := Nx.new n2.ok hp
    exact q _ p _ _ rfl ((n1.trans n2).trans n3) ((n1.trans n2).free hp) upd_same ⟨_, rfl, (h6.append h4).k (minus_keep.tk.trans (Keep.new hp).tk)⟩) n1.ok) k
/-- a tracked list that stays -/
def plt (K : PySem.W.Frag) (ds : List D) : Ps := ⟨fun H v => ∃ a vs, v = .ref a ∧ H a = some (.lst vs) ∧ Dns K H ds vs, fun _ _ _ k ⟨a, vs, e, h1, h2⟩ => ⟨a, vs, e, k.obj _ _ h1 rfl, h2.k k.tk⟩⟩
theorem plt_pl {B : Hp} {v : V} (h : RV K B (.p (plt K ds)) v) : RV K B (.p (pl K ds)) v := by
  obtain ⟨a, vs, e, h1, h2⟩ := h
  exact ⟨a, vs, e, SqL.of h1, h2⟩
theorem je_pl (h : PE X e (tR K Γ (.p (plt K ds)))) : PE X e (tR K Γ (.p (pl K ds))) := pe_imp h fun σ H Q ⟨Z, k, q⟩ => ⟨Z, k, fun v H' n r => q v H' n (plt_pl r)⟩
theorem je_ft (h : PE X e (tF K Γ (· = cl K ds))) : PE X e (tR K Γ (.p (plt K ds))) := pe_imp h fun σ H Q ⟨Z, k, q⟩ => tL_of (fun v H' n r => q v H' n r) k
/-- xs + ys, both tracked -/
theorem je_catT (ha : PE X a (tR X.K Γ (.p (plt X.K xs)))) (hb : PE X b (tR X.K Γ (.p (plt X.K ys)))) (hz : xs.length + ys.length ≤ 100000) : PE X (.BinOp a .Add b pos) (tF X.K Γ (· = cl X.K (xs ++ ys))) :=
  je_opF op_cat (fun B H v w Q kb tk r1 r2 q => by
    obtain ⟨t, vs, e1, h1, h3⟩ := r1
    obtain ⟨u, ws, e2, h2, h4⟩ := r2
    have t1 := kb.obj _ _ h1 rfl
    have t2 := kb.obj _ _ h2 rfl
    refine ⟨t, u, vs, ws, e1, e2, t1, t2, by rw [h3.len, h4.len]; exact Nat.le_trans hz (by decide), fun p hp => ?_⟩
    exact q _ p _ _ rfl (Keep.new hp) hp upd_same ⟨_, rfl, (h3.append h4).k (kb.tk.trans (Keep.new hp).tk)⟩) ha hb

/-! ### in, of ints -/
theorem flat_nums : ∀ (ns : List Int), (ns.map V.int).all flatV = true
  | [] => rfl
  | n :: ns => by rw [List.map_cons, List.all_cons, flat_nums ns]; rfl
theorem inV_nums (n : Int) : ∀ (ns : List Int), inV (.int n) (ns.map V.int) = decide (n ∈ ns)
  | [] => rfl
  | m :: ns => by
    have ih := inV_nums n ns
    unfold inV at ih ⊢
    rw [List.map_cons, List.any_cons, ih]
    show (m == n || decide (n ∈ ns)) = decide (n ∈ m :: ns)
    rw [show decide (n ∈ m :: ns) = (decide (n = m) || decide (n ∈ ns)) by rw [← Bool.decide_or]; exact decide_eq_decide.mpr List.mem_cons]
    congr 1
    rw [Bool.eq_iff_iff, beq_iff_eq, decide_eq_true_iff]
    exact ⟨Eq.symm, Eq.symm⟩
theorem o2_inT {n : Int} {ns : List Int} {neg : Bool} : Op2 K (rIn K neg) (.d (.i n)) (.d (.t (nums ns))) (.b (if neg then !decide (n ∈ ns) else decide (n ∈ ns))) := fun B H x y Q kb tk h1 h2 q => by
  obtain ⟨a, vs, e1, h2, h3⟩ := h2
  obtain rfl := dns_nums h3
  have h1 : x = .int n := h1
  subst h1
  refine ⟨a, _, e1, .inr (SqT.of (kb.tk _ _ h2 rfl)), rfl, flat_nums ns, ?_⟩
  rw [inV_nums]
  exact q _ H (Keep.refl H) rfl
theorem o2_inL {n : Int} {ns : List Int} {neg : Bool} : Op2 K (rIn K neg) (.d (.i n)) (.p (pl K (nums ns))) (.b (if neg then !decide (n ∈ ns) else decide (n ∈ ns))) := fun B H x y Q kb tk h1 h2 q => by
  obtain ⟨a, vs, e1, h2, h3⟩ := h2
  obtain rfl := dns_nums h3
  have h1 : x = .int n := h1
  subst h1
  refine ⟨a, _, e1, .inl (kb.seqL h2), rfl, flat_nums ns, ?_⟩
  rw [inV_nums]
  exact q _ H (Keep.refl H) rfl
section
variable {n : Int} {ns : List Int}
theorem je_inT (ha : PE X a (tR X.K Γ (.d (.i n)))) (hb : PE X b (tR X.K Γ (.d (.t (nums ns))))) (hm : behindInMarks .In b = false := by rfl) : PE X (.Compare a [.In] [b] pos) (tR X.K Γ (.d (.b (decide (n ∈ ns))))) := je_cmp op_in_seq o2_inT ha hb hm
theorem jt_inT (ha : PE X a (tR X.K Γ (.d (.i n)))) (hb : PE X b (tR X.K Γ (.d (.t (nums ns))))) (hm : behindInMarks .In b = false := by rfl) : PT X (.Compare a [.In] [b] pos) (tT X.K Γ (decide (n ∈ ns))) := jt_cmp op_in_seq o2_inT ha hb hm
theorem jt_niT (ha : PE X a (tR X.K Γ (.d (.i n)))) (hb : PE X b (tR X.K Γ (.d (.t (nums ns))))) (hm : behindInMarks .NotIn b = false := by rfl) : PT X (.Compare a [.NotIn] [b] pos) (tT X.K Γ (!decide (n ∈ ns))) := jt_cmp op_notIn_seq o2_inT ha hb hm
theorem jt_inL (ha : PE X a (tR X.K Γ (.d (.i n)))) (hb : PE X b (tR X.K Γ (.p (pl X.K (nums ns))))) (hm : behindInMarks .In b = false := by rfl) : PT X (.Compare a [.In] [b] pos) (tT X.K Γ (decide (n ∈ ns))) := jt_cmp op_in_seq o2_inL ha hb hm
theorem jt_niL (ha : PE X a (tR X.K Γ (.d (.i n)))) (hb : PE X b (tR X.K Γ (.p (pl X.K (nums ns))))) (hm : behindInMarks .NotIn b = false := by rfl) : PT X (.Compare a [.NotIn] [b] pos) (tT X.K Γ (!decide (n ∈ ns))) := jt_cmp op_notIn_seq o2_inL ha hb hm
end

/-! ### == of data -/
mutual
def toP : D → PyData
  | .non => .none
  | .b x => .bool x
  | .i n => .int n
  | .t xs => .tuple (toPs xs)
  | .c ns => .tuple (ns.map .int)
  | .s ns => .list (ns.map .int)
def toPs : List D → List PyData
  | [] => []
  | x :: xs => toP x :: toPs xs
end
theorem dps_ints {H : Hp} : ∀ ns : List Int, DpAll K H (ns.map V.int) (ns.map PyData.int)
  | [] => .nil
  | n :: ns => .cons (.int n) (dps_ints ns)
theorem lay_ints : ∀ ns : List Int, PyData.canLayAll0 (ns.map PyData.int) = true
  | [] => by simp [PyData.canLayAll0]
  | n :: ns => by simp only [List.map_cons, PyData.canLayAll0, PyData.canLay0, lay_ints ns, Bool.and_self]
mutual
theorem dp_of {H : Hp} : ∀ (d : D) (v : V), Dn K H d v → Dp K H v (toP d)
  | .non, v, h => by
    have h : v = .non := h
    subst h
    exact .non
  | .b x, v, h => by
    have h : v = .bl x := h
    subst h
    exact .bl x
  | .i n, v, h => by
    have h : v = .int n := h
    subst h
    exact .int n
  | .t xs, v, ⟨a, vs, e, h1, h2⟩ => by
    subst e
    exact .tup (SqT.of h1) (dps_of xs vs h2)
  | .c ns, v, ⟨a, e, h⟩ => by
    subst e
    exact .tup h.seq (dps_ints ns)
  | .s ns, v, ⟨a, e, h⟩ => by
    subst e
    exact .lst h.seq (dps_ints ns)
theorem dps_of {H : Hp} : ∀ (ds : List D) (vs : List V), Dns K H ds vs → DpAll K H vs (toPs ds)
  | [], vs, h => by
    rw [show vs = [] from h]
    exact .nil
  | x :: xs, _, ⟨v, r, e, h1, h2⟩ => by
    subst e
    exact .cons (dp_of x v h1) (dps_of xs r h2)
end
mutual
theorem canLay_toP : ∀ d : D, (toP d).canLay0 = true
  | .non => by simp [toP, PyData.canLay0]
  | .b _ => by simp [toP, PyData.canLay0]
  | .i _ => by simp [toP, PyData.canLay0]
  | .t xs => by simp only [toP, PyData.canLay0]; exact canLays_toP xs
  | .c ns => by simp only [toP, PyData.canLay0]; exact lay_ints ns
  | .s ns => by simp only [toP, PyData.canLay0]; exact lay_ints ns
theorem canLays_toP : ∀ ds : List D, PyData.canLayAll0 (toPs ds) = true
  | [] => by simp [toPs, PyData.canLayAll0]
  | x :: xs => by simp only [toPs, PyData.canLayAll0, canLay_toP x, canLays_toP xs, Bool.and_self]
end
theorem shaped_toP (h : (toP d).depth ≤ 64) : SeqAt.shaped (toP d) = true := by
  unfold SeqAt.shaped
  rw [canLay_toP, decide_eq_true h]
  rfl
theorem shaped_list (h : PyData.depthAll (toPs ds) ≤ 63) : SeqAt.shaped (.list (toPs ds)) = true := by
  unfold SeqAt.shaped
  have e : (PyData.list (toPs ds)).canLay0 = true := by simp only [PyData.canLay0]; exact canLays_toP ds
  have e2 : (PyData.list (toPs ds)).depth ≤ 64 := by simp only [PyData.depth]; omega
  rw [e, decide_eq_true e2]
  rfl
theorem depth_nums : ∀ ns : List Int, PyData.depthAll (toPs (nums ns)) = 0
  | [] => by simp [nums, toPs, PyData.depthAll]
  | n :: ns => by
    have ih := depth_nums ns
    unfold nums at ih ⊢
    simp only [List.map_cons, toPs, toP, PyData.depthAll, PyData.depth, ih]
    rfl
theorem eqv_nums : ∀ ns ms : List Int, PyData.eqvAll (toPs (nums ns)) (toPs (nums ms)) = decide (ns = ms)
  | [], [] => by simp [nums, toPs, PyData.eqvAll]
  | [], m :: ms => by simp [nums, toPs, PyData.eqvAll]
  | n :: ns, [] => by simp [nums, toPs, PyData.eqvAll]
  | n :: ns, m :: ms => by
    have ih := eqv_nums ns ms
    unfold nums at ih ⊢
    simp only [List.map_cons, toPs, toP, PyData.eqvAll, PyData.eqv, ih]
    rw [Bool.eq_iff_iff]
    simp
theorem o2_eqT {ns ms : List Int} : Op2 K (rEqD K) (.d (.t (nums ns))) (.d (.t (nums ms))) (.b (decide (ns = ms))) := fun B H x y Q kb tk h1 h2 q => by
  have sh : ∀ ks : List Int, SeqAt.shaped (toP (.t (nums ks))) = true := fun ks => shaped_toP (by simp only [toP, PyData.depth, depth_nums]; omega)
  refine ⟨_, _, dp_of _ _ (Dn.k h1 kb.tk), dp_of _ _ (Dn.k h2 kb.tk), sh ns, sh ms, ?_⟩
  have e : (toP (.t (nums ns))).eqv (toP (.t (nums ms))) = decide (ns = ms) := by
    simp only [toP, PyData.eqv]
    exact eqv_nums ns ms
  rw [e]
  exact q _ H (Keep.refl H) rfl
/-- == of tuples of ints -/
theorem je_eqT {ns ms : List Int} (hu : X.A.units + 64 < cLine) (ha : PE X a (tR X.K Γ (.d (.t (nums ns))))) (hb : PE X b (tR X.K Γ (.d (.t (nums ms))))) : PE X (.Compare a [.Eq] [b] pos) (tR X.K Γ (.d (.b (decide (ns = ms))))) := je_cmp (op_eqD hu) o2_eqT ha hb (nomark _)
theorem jt_eqT {ns ms : List Int} (hu : X.A.units + 64 < cLine) (ha : PE X a (tR X.K Γ (.d (.t (nums ns))))) (hb : PE X b (tR X.K Γ (.d (.t (nums ms))))) : PT X (.Compare a [.Eq] [b] pos) (tT X.K Γ (decide (ns = ms))) := jt_cmp (op_eqD hu) o2_eqT ha hb (nomark _)
/-- xs == [], xs != [] -/
theorem eqv_nil : PyData.eqv (.list (toPs ds)) (.list (toPs [])) = ds.isEmpty := by
  cases ds with
  | nil => simp [toPs, PyData.eqv, PyData.eqvAll]
  | cons x xs => simp [toPs, PyData.eqv, PyData.eqvAll]
theorem o2_eqN (h : PyData.depthAll (toPs ds) ≤ 63) : Op2 K (rEqD K) (.p (pl K ds)) (.p (pl K [])) (.b ds.isEmpty) := fun B H x y Q kb tk h1 h2 q => by
  obtain ⟨a, vs, e1, h1, h3⟩ := h1
  obtain ⟨c, ws, e2, h2, h4⟩ := h2
  subst e1
  subst e2
  refine ⟨_, _, .lst (kb.seqL h1) (dps_of _ _ (h3.k kb.tk)), .lst (kb.seqL h2) (dps_of _ _ (h4.k kb.tk)), shaped_list h, shaped_list (ds := []) (by simp [toPs, PyData.depthAll]), ?_⟩
  rw [eqv_nil]
  exact q _ H (Keep.refl H) rfl
theorem o2_neN (h : PyData.depthAll (toPs ds) ≤ 63) : Op2 K (rNeD K) (.p (pl K ds)) (.p (pl K [])) (.b (!ds.isEmpty)) := fun B H x y Q kb tk h1 h2 q => by
  obtain ⟨a, vs, e1, h1, h3⟩ := h1
  obtain ⟨c, ws, e2, h2, h4⟩ := h2
  subst e1
  subst e2
  refine ⟨_, _, .lst (kb.seqL h1) (dps_of _ _ (h3.k kb.tk)), .lst (kb.seqL h2) (dps_of _ _ (h4.k kb.tk)), shaped_list h, shaped_list (ds := []) (by simp [toPs, PyData.depthAll]), ?_⟩
  rw [eqv_nil]
  exact q _ H (Keep.refl H) rfl
theorem je_eqN (hu : X.A.units + 64 < cLine) (ha : PE X a (tR X.K Γ (.p (pl X.K ds)))) (hb : PE X b (tR X.K Γ (.p (pl X.K [])))) (h : PyData.depthAll (toPs ds) ≤ 63) : PE X (.Compare a [.Eq] [b] pos) (tR X.K Γ (.d (.b ds.isEmpty))) := je_cmp (op_eqD hu) (o2_eqN h) ha hb (nomark _)
theorem jt_eqN (hu : X.A.units + 64 < cLine) (ha : PE X a (tR X.K Γ (.p (pl X.K ds)))) (hb : PE X b (tR X.K Γ (.p (pl X.K [])))) (h : PyData.depthAll (toPs ds) ≤ 63) : PT X (.Compare a [.Eq] [b] pos) (tT X.K Γ ds.isEmpty) := jt_cmp (op_eqD hu) (o2_eqN h) ha hb (nomark _)
theorem jt_neN (hu : X.A.units + 64 < cLine) (ha : PE X a (tR X.K Γ (.p (pl X.K ds)))) (hb : PE X b (tR X.K Γ (.p (pl X.K [])))) (h : PyData.depthAll (toPs ds) ≤ 63) : PT X (.Compare a [.NotEq] [b] pos) (tT X.K Γ (!ds.isEmpty)) := jt_cmp (op_neD hu) (o2_neN h) ha hb (nomark _)
/-- lists of ints, of tuples of ints: no depth -/
theorem depth_map {α : Type} {f : α → D} (h : ∀ x, (toP (f x)).depth ≤ 5) : ∀ xs : List α, PyData.depthAll (toPs (xs.map f)) ≤ 63
  | [] => by simp [toPs, PyData.depthAll]
  | x :: xs => by
    have ih := depth_map h xs
    have := h x
    simp only [List.map_cons, toPs, PyData.depthAll]
    omega

/-! ### truth of a list, a tuple -/
def TruL (K : PySem.W.Frag) (s : Sl) (x : Bool) : Prop := ∀ (B H : Hp) (v : V), Keep B H → RV K B s v → TruV K v H x
theorem truL_pl : TruL K (.p (pl K ds)) (!ds.isEmpty) := fun B H v k ⟨a, vs, e, h1, h2⟩ => by
  subst e
  have e : ds.isEmpty = vs.isEmpty := by
    cases ds with
    | nil => rw [show vs = [] from h2]; rfl
    | cons d ds =>
      obtain ⟨_, _, e, _⟩ := h2
      rw [e]
      rfl
  exact .inl ⟨vs, k.seqL h1, by rw [e]⟩
theorem truL_t : TruL K (.d (.t ds)) (!ds.isEmpty) := fun B H v k ⟨a, vs, e, h1, h2⟩ => by
  subst e
  have e : ds.isEmpty = vs.isEmpty := by
    cases ds with
    | nil => rw [show vs = [] from h2]; rfl
    | cons d ds =>
      obtain ⟨_, _, e, _⟩ := h2
      rw [e]
      rfl
  exact .inr (.inl ⟨vs, SqT.of (k.tk _ _ h1 rfl), by rw [e]⟩)
/-- a list or a tuple as a test -/
theorem jt_tru {x : Bool} (ha : PE X a (tR X.K Γ s)) (h : TruL X.K s x) (he : ∀ whole, isTrue a X.env whole = (do let v ← whole; standAt a.pos; holding [v] (truthy v)) := by intro _; rfl) : PT X a (tT X.K Γ x) :=
  pt_imp (pt_truth ha he) fun σ H Q ⟨Z, k, q⟩ => ⟨Z, k, fun v H' n r => ⟨x, h _ _ _ minus_keep r, q H' n⟩⟩
/-- not xs, as a value -/
theorem je_notL {x : Bool} (ha : PE X a (tR X.K Γ s)) (h : TruL X.K s x) : PE X (.UnaryOp .Not a pos) (tR X.K Γ (.d (.b (!x)))) :=
  pe_imp (pe_notT ha) fun σ H Q ⟨Z, k, q⟩ => ⟨Z, k, fun v H' n r => ⟨x, h _ _ _ minus_keep r, q _ H' n rfl⟩⟩

/-! ### calls of built-ins -/
def CallD (K : PySem.W.Frag) (r : List V → Hp → VK → Prop) (ss : List Sl) (d : D) : Prop := ∀ (B H : Hp) (vs : List V) (Q : VK), Keep B H → TK H B → RVs K B ss vs → (∀ v H', Keep H H' → Dn K H' d v → Q v H') → r vs H Q
def CallF (K : PySem.W.Frag) (r : List V → Hp → VK → Prop) (ss : List Sl) (P : Ct → Prop) : Prop := ∀ (B H : Hp) (vs : List V) (Q : VK), Keep B H → TK H B → RVs K B ss vs → (∀ c a ob H', P c → Keep H H' → H a = none → H' a = some ob → c.on a ob H' → Q (.ref a) H') → r vs H Q
theorem tCB_R {σ : St} {H : Hp} {Q : VK} {r : List V → Hp → VK → Prop} (h : CallD K r ss d) (q : tR K Γ (.d d) σ H Q) : tCB r (tA K Γ ss) σ H Q :=
  let ⟨Z, k, q⟩ := q
  ⟨Z, k, fun vs H1 n1 r1 => h (minus Z σ Γ H1) H1 vs Q minus_keep n1.ok.tk r1 fun v H2 kp dv => q v H2 (n1.trans (Nx.of_keep n1.ok kp)) (dv.k (n1.ok.keep kp).tk)⟩
theorem tCB_F {σ : St} {H : Hp} {Q : VK} {r : List V → Hp → VK → Prop} {P : Ct → Prop} (h : CallF K r ss P) (q : tF K Γ P σ H Q) : tCB r (tA K Γ ss) σ H Q :=
  let ⟨Z, k, q⟩ := q
  ⟨Z, k, fun vs H1 n1 r1 => h (minus Z σ Γ H1) H1 vs Q minus_keep n1.ok.tk r1 fun c a ob H2 hc kp fr ha on => q c a ob H2 hc (n1.trans (Nx.of_keep n1.ok kp)) (n1.free fr) ha on⟩
section
variable {id T : String} {x : Str} {r : List V → Hp → VK → Prop} {P : Ct → Prop}
theorem je_callB (hc : CallR X (.builtin id) r) (h : CallD X.K r ss d) (hm : X.mg x = none) (hv : bootBuiltins x = some (.builtin id)) (ha : PA X (e :: es) (tA X.K Γ ss)) (hg : Gl X x := by rfl) (hn : x ≠ "__name__" := by decide) (hdb : (x == ("__debug__" : Str)) = false := by decide)
    (he : starEach (e :: es) X.env = (false, eval e X.env) :: starEach es X.env := by rfl) (hpl : (backTo pos (starEach es X.env)).any (·.1) = false := by rfl) : PE X (.Call (.Name x p) (e :: es) [] pos) (tR X.K Γ (.d d)) :=
  pe_imp (pe_callB hc hg hm hv ha hn hdb he hpl) fun _ _ _ q => tCB_R h q
theorem je_callBF (hc : CallR X (.builtin id) r) (h : CallF X.K r ss P) (hm : X.mg x = none) (hv : bootBuiltins x = some (.builtin id)) (ha : PA X (e :: es) (tA X.K Γ ss)) (hg : Gl X x := by rfl) (hn : x ≠ "__name__" := by decide) (hdb : (x == ("__debug__" : Str)) = false := by decide)
    (he : starEach (e :: es) X.env = (false, eval e X.env) :: starEach es X.env := by rfl) (hpl : (backTo pos (starEach es X.env)).any (·.1) = false := by rfl) : PE X (.Call (.Name x p) (e :: es) [] pos) (tF X.K Γ P) :=
  pe_imp (pe_callB hc hg hm hv ha hn hdb he hpl) fun _ _ _ q => tCB_F h q
theorem je_callTy (hc : CallR X (.type T) r) (h : CallD X.K r ss d) (hm : X.mg x = none) (hv : bootBuiltins x = some (.type T)) (ha : PA X (e :: es) (tA X.K Γ ss)) (hg : Gl X x := by rfl) (hn : x ≠ "__name__" := by decide) (hdb : (x == ("__debug__" : Str)) = false := by decide)
    (he : starEach (e :: es) X.env = (false, eval e X.env) :: starEach es X.env := by rfl) (hpl : (backTo pos (starEach es X.env)).any (·.1) = false := by rfl) : PE X (.Call (.Name x p) (e :: es) [] pos) (tR X.K Γ (.d d)) :=
  pe_imp (pe_callTy hc hg hm hv ha hn hdb he hpl) fun _ _ _ q => tCB_R h q
theorem je_callTyF (hc : CallR X (.type T) r) (h : CallF X.K r ss P) (hm : X.mg x = none) (hv : bootBuiltins x = some (.type T)) (ha : PA X (e :: es) (tA X.K Γ ss)) (hg : Gl X x := by rfl) (hn : x ≠ "__name__" := by decide) (hdb : (x == ("__debug__" : Str)) = false := by decide)
    (he : starEach (e :: es) X.env = (false, eval e X.env) :: starEach es X.env := by rfl) (hpl : (backTo pos (starEach es X.env)).any (·.1) = false := by rfl) : PE X (.Call (.Name x p) (e :: es) [] pos) (tF X.K Γ P) :=
  pe_imp (pe_callTy hc hg hm hv ha hn hdb he hpl) fun _ _ _ q => tCB_F h q
end
theorem cd_lenT : CallD K (fun xs H Q => ∃ p ys, xs = [.ref p] ∧ (SqL K H p ys ∨ SqT K H p ys) ∧ Q (.int ys.length) H) [.d (.t ds)] (.i ds.length) := fun B H vs Q kb tk h q => by
  obtain ⟨v, r, e, ⟨a, ws, e1, h1, h2⟩, h3⟩ := h
  have h3 : r = [] := h3
  subst h3
  subst e1
  refine ⟨a, ws, e, .inr (SqT.of (kb.tk _ _ h1 rfl)), ?_⟩
  rw [h2.len]
  exact q _ H (Keep.refl H) rfl
theorem cd_lenL : CallD K (fun xs H Q => ∃ p ys, xs = [.ref p] ∧ (SqL K H p ys ∨ SqT K H p ys) ∧ Q (.int ys.length) H) [.p (pl K ds)] (.i ds.length) := fun B H vs Q kb tk h q => by
  obtain ⟨v, r, e, ⟨a, ws, e1, h1, h2⟩, h3⟩ := h
  have h3 : r = [] := h3
  subst h3
  subst e1
  refine ⟨a, ws, e, .inl (kb.seqL h1), ?_⟩
  rw [h2.len]
  exact q _ H (Keep.refl H) rfl
theorem je_lenT (hm : X.mg "len" = none) (ha : PE X e (tR X.K Γ (.d (.t ds)))) (hg : Gl X "len" := by rfl) (he : starEach [e] X.env = (false, eval e X.env) :: starEach [] X.env := by rfl) : PE X (.Call (.Name "len" p) [e] [] pos) (tR X.K Γ (.d (.i ds.length))) :=
  je_callB call_len_seq cd_lenT hm PySem.boot_len (ja_cons ha ja_nil he) hg (by decide) (by decide) he
theorem je_lenL (hm : X.mg "len" = none) (ha : PE X e (tR X.K Γ (.p (pl X.K ds)))) (hg : Gl X "len" := by rfl) (he : starEach [e] X.env = (false, eval e X.env) :: starEach [] X.env := by rfl) : PE X (.Call (.Name "len" p) [e] [] pos) (tR X.K Γ (.d (.i ds.length))) :=
  je_callB call_len_seq cd_lenL hm PySem.boot_len (ja_cons ha ja_nil he) hg (by decide) (by decide) he
/-- tuple(list) -/
theorem je_tupleL (hm : X.mg "tuple" = none) (ha : PE X e (tR X.K Γ (.p (pl X.K ds)))) (hg : Gl X "tuple" := by rfl) (he : starEach [e] X.env = (false, eval e X.env) :: starEach [] X.env := by rfl) : PE X (.Call (.Name "tuple" p) [e] [] pos) (tR X.K Γ (.d (.t ds))) :=
  je_callTy call_tuple_of (fun B H vs Q kb tk h q => by
    obtain ⟨v, r, e, ⟨a, ws, e1, h1, h2⟩, h3⟩ := h
    have h3 : r = [] := h3
    subst h3
    subst e1
    exact ⟨a, ws, e, .inl ⟨kb.seqL h1, fun l hl => q _ _ (Keep.new hl) ⟨l, ws, rfl, upd_same, h2.k (kb.tk.trans (Keep.new hl).tk)⟩⟩⟩) hm (by decide +kernel) (ja_cons ha ja_nil he) hg (by decide) (by decide) he
/-- list(tuple) -/
theorem je_listT (hm : X.mg "list" = none) (ha : PE X e (tR X.K Γ (.d (.t ds)))) (hg : Gl X "list" := by rfl) (he : starEach [e] X.env = (false, eval e X.env) :: starEach [] X.env := by rfl) : PE X (.Call (.Name "list" p) [e] [] pos) (tF X.K Γ (· = cl X.K ds)) :=
  je_callTyF call_list_of (fun B H vs Q kb tk h q => by
    obtain ⟨v, r, e, ⟨a, ws, e1, h1, h2⟩, h3⟩ := h
    have h3 : r = [] := h3
    subst h3
    subst e1
    exact ⟨a, ws, e, .inr (SqT.of (kb.tk _ _ h1 rfl)), fun l hl => q _ l _ _ rfl (Keep.new hl) hl upd_same ⟨ws, rfl, h2.k (kb.tk.trans (Keep.new hl).tk)⟩⟩) hm (by decide +kernel) (ja_cons ha ja_nil he) hg (by decide) (by decide) he
/-- int(bool), int(int) -/
theorem je_intB {x : Bool} (hm : X.mg "int" = none) (ha : PE X e (tR X.K Γ (.d (.b x)))) (hg : Gl X "int" := by rfl) (he : starEach [e] X.env = (false, eval e X.env) :: starEach [] X.env := by rfl) : PE X (.Call (.Name "int" p) [e] [] pos) (tR X.K Γ (.d (.i (if x then 1 else 0)))) :=
  je_callTy call_int1 (fun B H vs Q kb tk h q => by
    obtain ⟨v, r, e, h1, h3⟩ := h
    have h3 : r = [] := h3
    have h1 : v = .bl x := h1
    subst h3
    subst h1
    exact .inr ⟨x, e, q _ H (Keep.refl H) rfl⟩) hm (by decide +kernel) (ja_cons ha ja_nil he) hg (by decide) (by decide) he
theorem je_intI {n : Int} (hm : X.mg "int" = none) (ha : PE X e (tR X.K Γ (.d (.i n)))) (hg : Gl X "int" := by rfl) (he : starEach [e] X.env = (false, eval e X.env) :: starEach [] X.env := by rfl) : PE X (.Call (.Name "int" p) [e] [] pos) (tR X.K Γ (.d (.i n))) :=
  je_callTy call_int1 (fun B H vs Q kb tk h q => by
    obtain ⟨v, r, e, h1, h3⟩ := h
    have h3 : r = [] := h3
    have h1 : v = .int n := h1
    subst h3
    subst h1
    exact .inl ⟨n, e, q _ H (Keep.refl H) rfl⟩) hm (by decide +kernel) (ja_cons ha ja_nil he) hg (by decide) (by decide) he
theorem je_min {n m : Int} (hc : X.calm = true) (hm : X.mg "min" = none) (ha : PE X e (tR X.K Γ (.d (.i n)))) (hb : PE X a (tR X.K Γ (.d (.i m)))) (hg : Gl X "min" := by rfl) (he : starEach [e, a] X.env = (false, eval e X.env) :: starEach [a] X.env := by rfl) (he2 : starEach [a] X.env = (false, eval a X.env) :: starEach [] X.env := by rfl)
    (hpl : (backTo pos (starEach [a] X.env)).any (·.1) = false := by rfl) : PE X (.Call (.Name "min" p) [e, a] [] pos) (tR X.K Γ (.d (.i (if m < n then m else n)))) :=
  je_callB (call_min2 hc) (fun B H vs Q kb tk h q => by
    obtain ⟨v, r, e, h1, w, r2, e2, h2, h3⟩ := h
    have h3 : r2 = [] := h3
    have h1 : v = .int n := h1
    have h2 : w = .int m := h2
    subst h3 h1 h2 e2
    exact ⟨n, m, e, q _ H (Keep.refl H) rfl⟩) hm (by decide +kernel) (ja_cons ha (ja_cons hb ja_nil he2) he) hg (by decide) (by decide) he hpl
theorem je_max {n m : Int} (hc : X.calm = true) (hm : X.mg "max" = none) (ha : PE X e (tR X.K Γ (.d (.i n)))) (hb : PE X a (tR X.K Γ (.d (.i m)))) (hg : Gl X "max" := by rfl) (he : starEach [e, a] X.env = (false, eval e X.env) :: starEach [a] X.env := by rfl) (he2 : starEach [a] X.env = (false, eval a X.env) :: starEach [] X.env := by rfl)
    (hpl : (backTo pos (starEach [a] X.env)).any (·.1) = false := by rfl) : PE X (.Call (.Name "max" p) [e, a] [] pos) (tR X.K Γ (.d (.i (if m > n then m else n)))) :=
  je_callB (call_max2 hc) (fun B H vs Q kb tk h q => by
    obtain ⟨v, r, e, h1, w, r2, e2, h2, h3⟩ := h
    have h3 : r2 = [] := h3
    have h1 : v = .int n := h1
    have h2 : w = .int m := h2
    subst h3 h1 h2 e2
    exact ⟨n, m, e, q _ H (Keep.refl H) rfl⟩) hm (by decide +kernel) (ja_cons ha (ja_cons hb ja_nil he2) he) hg (by decide) (by decide) he hpl
/-- max of a list of ints -/
theorem je_maxL {ns : List Int} {m : Int} (hc : X.calm = true) (hm : X.mg "max" = none) (ha : PE X e (tR X.K Γ (.p (pl X.K ds)))) (hn : ds = nums ns) (h1 : m ∈ ns) (h2 : ∀ y ∈ ns, y ≤ m) (hg : Gl X "max" := by rfl) (he : starEach [e] X.env = (false, eval e X.env) :: starEach [] X.env := by rfl) :
    PE X (.Call (.Name "max" p) [e] [] pos) (tR X.K Γ (.d (.i m))) :=
  je_callB (cr_max hc) (fun B H vs Q kb tk h q => by
    subst hn
    obtain ⟨v, r, e, ⟨a, ws, e1, h3, h4⟩, h5⟩ := h
    have h5 : r = [] := h5
    obtain rfl := dns_nums h4
    subst h5 e1
    refine ⟨a, ns, e, kb.seqL h3, List.length_pos_of_mem h1, fun k hk hle => ?_⟩
    have e : k = m := Int.le_antisymm (h2 k hk) (hle m h1)
    subst e
    exact q _ H (Keep.refl H) rfl) hm (by decide +kernel) (ja_cons ha ja_nil he) hg (by decide) (by decide) he
/-- sum of a list of ints -/
theorem je_sumL {ns : List Int} (hc : X.calm = true) (hm : X.mg "sum" = none) (ha : PE X e (tR X.K Γ (.p (pl X.K ds)))) (hn : ds = nums ns) (hg : Gl X "sum" := by rfl) (he : starEach [e] X.env = (false, eval e X.env) :: starEach [] X.env := by rfl) :
    PE X (.Call (.Name "sum" p) [e] [] pos) (tR X.K Γ (.d (.i ns.sum))) :=
  je_callB (cr_sum hc) (fun B H vs Q kb tk h q => by
    subst hn
    obtain ⟨v, r, e, ⟨a, ws, e1, h3, h4⟩, h5⟩ := h
    have h5 : r = [] := h5
    obtain rfl := dns_nums h4
    subst h5 e1
    exact ⟨a, ns, e, kb.seqL h3, q _ H (Keep.refl H) rfl⟩) hm (by decide +kernel) (ja_cons ha ja_nil he) hg (by decide) (by decide) he
/-- isinstance of data, of a built-in class -/
def tyN : D → String
  | .non => "NoneType"
  | .b _ => "bool"
  | .i _ => "int"
  | .t _ => "tuple"
  | .c _ => "tuple"
  | .s _ => "list"
theorem tyX_of {H : Hp} {v : V} (h : Dn K H d v) : TyX K H v (.type (tyN d)) := by
  cases d with
  | non => rw [show v = .non from h]; exact .base .non
  | b x => rw [show v = .bl x from h]; exact .base (.bl x)
  | i n => rw [show v = .int n from h]; exact .base (.int n)
  | t xs =>
    obtain ⟨a, vs, e, h1, _⟩ := h
    rw [e]
    exact .base (.tup h1)
  | c ns =>
    obtain ⟨a, e, h1⟩ := h
    rw [e]
    rcases h1 with ⟨o, h1, _⟩ | ⟨o, h1, h2, _⟩
    · exact .fTuple h1
    · exact .kTuple h1 h2
  | s ns =>
    obtain ⟨a, e, h1⟩ := h
    rw [e]
    rcases h1 with ⟨o, h1⟩ | ⟨o, h1, h2, _⟩
    · exact .base (.frz h1)
    · exact .kList h1 h2
theorem je_isi {T : String} {x : Str} {r : Bool} {p2 : Pos} (hm : X.mg "isinstance" = none) (hmT : X.mg x = none) (hvT : bootBuiltins x = some (.type T)) (ha : PE X e (tR X.K Γ (.d d))) (hk : PySem.W.kitOne X.K (.type (tyN d)) (.type T) = some r) (hg : Gl X "isinstance" := by rfl) (hgT : Gl X x := by rfl)
    (hnT : x ≠ "__name__" := by decide) (hdT : (x == ("__debug__" : Str)) = false := by decide)
    (he : starEach [e, .Name x p2] X.env = (false, eval e X.env) :: starEach [.Name x p2] X.env := by rfl) (he2 : starEach [.Name x p2] X.env = (false, eval (.Name x p2) X.env) :: starEach [] X.env := by rfl)
    (hpl : (backTo pos (starEach [.Name x p2] X.env)).any (·.1) = false := by rfl) : PE X (.Call (.Name "isinstance" p) [e, .Name x p2] [] pos) (tR X.K Γ (.d (.b r))) :=
  pe_imp (pe_callB call_isi hg hm (by decide +kernel) (pa_cons ha (pa_cons (pe_bltn (v := .ty T) hgT hmT hvT rfl hnT hdT) pa_nil he2) he) (by decide) (by decide) he hpl) fun σ H Q ⟨Z, k, q⟩ => ⟨Z, k, fun v H1 n r1 => ⟨v, .ty T, _, _, r, rfl, .ty T, tyX_of (Dn.k r1 minus_keep.tk), hk, q _ H1 n rfl⟩⟩

/-! ### calls of defs -/
/-- what comes back: data, a persistent thing, a new cell -/
def RetV (K : PySem.W.Frag) (H H' : Hp) : Sl → V → Prop
  | .u, _ => True
  | .d d, v => Dn K H' d v
  | .p p, v => p.phi H' v
  | .o c, v => ∃ a ob, v = .ref a ∧ H a = none ∧ H' a = some ob ∧ c.on a ob H'
/-- a promise over data: cases, each with its arguments, what it asks, what may come back -/
structure Pm where
  ix : Type
  A : ix → List Sl
  G : ix → Prop
  R : ix → Sl → Prop
def spP (K : PySem.W.Frag) (m : Pm) : Sp := fun vs H Q _ => ∃ i, m.G i ∧ (∀ P ∈ tabs K, GxR.TabG H P) ∧ RVs K H (m.A i) vs ∧ ∀ r v H', m.R i r → Keep H H' → RetV K H H' r v → Q v H'
section
variable {k : Nat} {f : Addr} {fd : FuncData} {ps : List Str} {m : Pm} {dvs : List V} {dvl : List Value} {x : Str}
/-- data comes back -/
theorem je_call (i : m.ix) (F : FnOk X.prog X.w X.K X.mg X.base CX0 k f fd ps (spP X.K m)) (hr : Room k X.A) (hm : X.mg x = some (.ref f)) (hk : PySem.W.keepIn X.K (.ref f) = true) (hb : Binds X.K fd ps []) (ha : PA X (e :: es) (tA X.K Γ (m.A i))) (h0 : m.G i) (h1 : ∀ r, m.R i r → r = .d d)
    (hg : Gl X x := by rfl) (hdb : (x == ("__debug__" : Str)) = false := by decide) (he : starEach (e :: es) X.env = (false, eval e X.env) :: starEach es X.env := by rfl) (hpl : (backTo pos (starEach es X.env)).any (·.1) = false := by rfl) :
    PE X (.Call (.Name x p) (e :: es) [] pos) (tR X.K Γ (.d d)) :=
  pe_imp (pe_call (dvs := []) F hr hg hm hk hb .nil pass0 ha hdb he hpl) fun σ H Q ⟨Z, k, q⟩ => ⟨Z, k, fun vs H1 n r1 => by
    show spP X.K m (vs ++ []) H1 Q E0
    rw [List.append_nil]
    refine ⟨i, h0, fun P hP => minus_keep.tabG (n.ok.tb P hP), r1.k minus_keep, fun r v H2 hp kp rv => ?_⟩
    rw [h1 r hp] at rv
    exact q v H2 (n.trans (Nx.of_keep n.ok kp)) (Dn.k rv (n.ok.keep kp).tk)⟩
/-- some data comes back -/
theorem je_callN {P : D → Prop} (i : m.ix) (F : FnOk X.prog X.w X.K X.mg X.base CX0 k f fd ps (spP X.K m)) (hr : Room k X.A) (hm : X.mg x = some (.ref f)) (hk : PySem.W.keepIn X.K (.ref f) = true) (hb : Binds X.K fd ps []) (ha : PA X (e :: es) (tA X.K Γ (m.A i))) (h0 : m.G i) (h1 : ∀ r, m.R i r → ∃ d, r = .d d ∧ P d)
    (hg : Gl X x := by rfl) (hdb : (x == ("__debug__" : Str)) = false := by decide) (he : starEach (e :: es) X.env = (false, eval e X.env) :: starEach es X.env := by rfl) (hpl : (backTo pos (starEach es X.env)).any (·.1) = false := by rfl) :
    PE X (.Call (.Name x p) (e :: es) [] pos) (tN X.K Γ P) :=
  pe_imp (pe_call (dvs := []) F hr hg hm hk hb .nil pass0 ha hdb he hpl) fun σ H Q ⟨Z, k, q⟩ => ⟨Z, k, fun vs H1 n r1 => by
    show spP X.K m (vs ++ []) H1 Q E0
    rw [List.append_nil]
    refine ⟨i, h0, fun P hP => minus_keep.tabG (n.ok.tb P hP), r1.k minus_keep, fun r v H2 hp kp rv => ?_⟩
    obtain ⟨d, e, hP⟩ := h1 r hp
    subst e
    exact q d v H2 hP (n.trans (Nx.of_keep n.ok kp)) (Dn.k rv (n.ok.keep kp).tk)⟩
/-- a new cell comes back -/
theorem je_callF {P : Ct → Prop} (i : m.ix) (F : FnOk X.prog X.w X.K X.mg X.base CX0 k f fd ps (spP X.K m)) (hr : Room k X.A) (hm : X.mg x = some (.ref f)) (hk : PySem.W.keepIn X.K (.ref f) = true) (hb : Binds X.K fd ps []) (ha : PA X (e :: es) (tA X.K Γ (m.A i))) (h0 : m.G i) (h1 : ∀ r, m.R i r → ∃ c, r = .o c ∧ P c)
    (hg : Gl X x := by rfl) (hdb : (x == ("__debug__" : Str)) = false := by decide) (he : starEach (e :: es) X.env = (false, eval e X.env) :: starEach es X.env := by rfl) (hpl : (backTo pos (starEach es X.env)).any (·.1) = false := by rfl) :
    PE X (.Call (.Name x p) (e :: es) [] pos) (tF X.K Γ P) :=
  pe_imp (pe_call (dvs := []) F hr hg hm hk hb .nil pass0 ha hdb he hpl) fun σ H Q ⟨Z, k, q⟩ => ⟨Z, k, fun vs H1 n r1 => by
    show spP X.K m (vs ++ []) H1 Q E0
    rw [List.append_nil]
    refine ⟨i, h0, fun P hP => minus_keep.tabG (n.ok.tb P hP), r1.k minus_keep, fun r v H2 hp kp rv => ?_⟩
    obtain ⟨c, e, hP⟩ := h1 r hp
    subst e
    obtain ⟨a, ob, e, fr, ha, on⟩ := rv
    subst e
    exact q c a ob H2 hP (n.trans (Nx.of_keep n.ok kp)) (n.free fr) ha on⟩
end
end
end DL
end

section
set_option Elab.async false
set_option linter.all false
set_option maxRecDepth 100000
set_option maxHeartbeats 2000000
/-! D3: what is walked, targets, comprehensions. -/
namespace DL
open PySem PySem.Spec L2

/-! ### what is walked: the items as data -/
def tI (K : PySem.W.Frag) (Γ : En) (ds : List D) : TI := fun σ H R => ∃ Z, OkS K Z σ Γ H ∧ ∀ J H1 G Y, Nx K Z σ Γ H H1 → Walk J ds.length G Y → (∀ H2, Keep (minus Z σ Γ H1) H2 → G H2) →
  (∀ i Ha x Hb, i < ds.length → Keep (minus Z σ Γ H1) Ha → Y i Ha x Hb → (Hb = Ha ∨ ∃ T o, Ha T = none ∧ Hb = upd Ha T o) ∧ ∃ d, ds[i]? = some d ∧ Dn K Hb d x) → R J H1
section
variable {X : Cx} {K : PySem.W.Frag} {Γ : En} {a b c e tg : Expr} {es rest : List Expr} {pos p : Pos} {s : Sl} {d : D} {ds xs ys : List D}
theorem pi_imp {wi wi' : TI} (h : PI X tg e wi) (w : ∀ σ H R, wi' σ H R → wi σ H R) : PI X tg e wi' := ⟨fun pins s σ H R I q => h.run pins s σ H R I (w σ H R q)⟩
theorem ji_tup (h : PE X e (tR X.K Γ (.d (.t ds)))) : PI X tg e (tI X.K Γ ds) :=
  pi_imp (pi_tup h) fun σ H R ⟨Z, k, q⟩ => ⟨Z, k, fun v H1 n r => by
    obtain ⟨a, vs, e1, h1, h2⟩ := r
    refine ⟨a, e1, ⟨vs, SqT.of (minus_some h1).1⟩, q _ H1 (fun H2 => SqT X.K H2 a vs) (YAt vs) n (by rw [← h2.len]; exact walk_tup) (fun H2 k => SqT.of (k.tk _ _ h1 rfl)) fun i Ha x Hb _ k y => ?_⟩
    obtain ⟨rfl, hx⟩ := y
    obtain ⟨d, e, hd⟩ := h2.get hx
    exact ⟨.inl rfl, d, e, hd.k k.tk⟩⟩
theorem ji_list (h : PE X e (tR X.K Γ (.p (pl X.K ds)))) : PI X tg e (tI X.K Γ ds) :=
  pi_imp (pi_list h) fun σ H R ⟨Z, k, q⟩ => ⟨Z, k, fun v H1 n r => by
    obtain ⟨a, vs, e1, h1, h2⟩ := r
    refine ⟨a, e1, ⟨vs, minus_keep.seqL h1⟩, q _ H1 (fun H2 => SqL X.K H2 a vs) (YAt vs) n (by rw [← h2.len]; exact walk_list) (fun H2 k => k.seqL h1) fun i Ha x Hb _ k y => ?_⟩
    obtain ⟨rfl, hx⟩ := y
    obtain ⟨d, e, hd⟩ := h2.get hx
    exact ⟨.inl rfl, d, e, hd.k k.tk⟩⟩
/-- lo, lo + 1, .. below hi -/
def rng (lo hi : Int) : List Int := (List.range (hi - lo).toNat).map fun (i : Nat) => lo + (i : Int)
theorem rng_len (lo hi : Int) : (nums (rng lo hi)).length = (hi - lo).toNat := by unfold nums rng; rw [List.length_map, List.length_map, List.length_range]
theorem rng_get {lo hi : Int} {i : Nat} (h : i < (hi - lo).toNat) : (nums (rng lo hi))[i]? = some (.i (lo + i)) := by
  unfold nums rng
  rw [List.getElem?_map, List.getElem?_map, List.getElem?_range h]
  rfl
theorem ji_range2 {lo hi : Int} (hm : X.mg "range" = none) (ha : PE X a (tR X.K Γ (.d (.i lo)))) (hb : PE X b (tR X.K Γ (.d (.i hi)))) (hz : -(2 ^ 62) ≤ lo ∧ lo < 2 ^ 62 ∧ -(2 ^ 62) ≤ hi ∧ hi < 2 ^ 62) (hg : Gl X "range" := by rfl)
    (hs : starEach [a, b] X.env = (false, eval a X.env) :: starEach [b] X.env := by rfl) (hs2 : starEach [b] X.env = (false, eval b X.env) :: starEach [] X.env := by rfl) (hs3 : starEach [] X.env = [] := by rfl) : PI X tg (.Call (.Name "range" p) [a, b] [] pos) (tI X.K Γ (nums (rng lo hi))) :=
  pi_imp (pi_range2 hg hm (ja_cons ha (ja_cons hb ja_nil hs2) hs) (by rw [hs, hs2, hs3]) (by rw [hs2, hs3])) fun σ H R ⟨Z, k, q⟩ => ⟨Z, k, fun vs H1 n r => by
    obtain ⟨v, r1, e, h1, w, r2, e2, h2, h3⟩ := r
    have h3 : r2 = [] := h3
    have h1 : v = .int lo := h1
    have h2 : w = .int hi := h2
    subst h3 e2 h1 h2 e
    refine ⟨lo, hi, rfl, hz, q _ H1 (fun _ => True) _ n (by rw [rng_len]; exact walk_range) (fun _ _ => trivial) fun i Ha x Hb hi' k y => ?_⟩
    obtain ⟨rfl, rfl⟩ := y
    rw [rng_len] at hi'
    exact ⟨.inl rfl, _, rng_get hi', rfl⟩⟩
theorem ji_range1 {hi : Int} (hm : X.mg "range" = none) (ha : PE X a (tR X.K Γ (.d (.i hi)))) (hz : -(2 ^ 62) ≤ hi ∧ hi < 2 ^ 62) (hg : Gl X "range" := by rfl)
    (hs : starEach [a] X.env = (false, eval a X.env) :: starEach [] X.env := by rfl) (hs3 : starEach [] X.env = [] := by rfl) : PI X tg (.Call (.Name "range" p) [a] [] pos) (tI X.K Γ (nums (rng 0 hi))) :=
  pi_imp (pi_range1 hg hm (ja_cons ha ja_nil hs) (by rw [hs, hs3])) fun σ H R ⟨Z, k, q⟩ => ⟨Z, k, fun vs H1 n r => by
    obtain ⟨v, r1, e, h1, h3⟩ := r
    have h3 : r1 = [] := h3
    have h1 : v = .int hi := h1
    subst h3 h1 e
    refine ⟨hi, rfl, hz.1, hz.2, q _ H1 (fun _ => True) _ n (by rw [rng_len, Int.sub_zero]; exact walk_range) (fun _ _ => trivial) fun i Ha x Hb hi' k y => ?_⟩
    obtain ⟨rfl, rfl⟩ := y
    rw [rng_len] at hi'
    exact ⟨.inl rfl, _, rng_get hi', rfl⟩⟩
/-- zip of two tuples of one length -/
def zipD (xs ys : List D) : List D := List.zipWith (fun x y => .t [x, y]) xs ys
theorem walk_zipT {a b : Addr} {xs ys : List V} {n : Nat} (hn : n = min xs.length ys.length) : Walk (RZ.ItzT K a b) n (fun H => SqT K H a xs ∧ SqT K H b ys) (YPair (fun i => xs[i]?) (fun i => ys[i]?)) := by
  subst hn
  refine ⟨fun i _ hi q => ?_, fun _ q => ⟨xs, ys, q.1, q.2, by omega⟩, fun i H v H' _ q y => ?_⟩
  · have h1 : i < xs.length := by omega
    have h2 : i < ys.length := by omega
    exact ⟨xs, ys, xs[i], ys[i], q.1, q.2, by simp [h1], by simp [h2]⟩
  · obtain ⟨T, x, z, h1, h2, h3, h4, h5⟩ := y
    exact ⟨T, x, z, h1, h2, h3, h4 xs q.1, h5 ys q.2⟩
theorem ji_zipT {elts : List Expr} {kk : Nat} {tpos : Pos} (hm : X.mg "zip" = none) (ha : PE X a (tR X.K Γ (.d (.t xs)))) (hb : PE X b (tR X.K Γ (.d (.t ys)))) (hg : Gl X "zip" := by rfl)
    (hs : starEach [a, b] X.env = (false, eval a X.env) :: starEach [b] X.env := by rfl) (hs2 : starEach [b] X.env = (false, eval b X.env) :: starEach [] X.env := by rfl) (hpl : (backTo pos (starEach [b] X.env)).any (·.1) = false := by rfl) :
    PI X (.Tuple elts kk tpos) (.Call (.Name "zip" p) [a, b] [] pos) (tI X.K Γ (zipD xs ys)) :=
  pi_imp (RZ.pi_zipA hg hm (ja_cons ha (ja_cons hb ja_nil hs2) hs) hs hpl) fun σ H R ⟨Z, k, q⟩ => ⟨Z, k, fun vs H1 n r => by
    obtain ⟨v, r1, e, ⟨A, us, e3, h1, h2⟩, w, r2, e2, ⟨B, ws, e4, h4, h5⟩, h3⟩ := r
    have h3 : r2 = [] := h3
    subst h3 e2 e3 e4 e
    have hl : (zipD xs ys).length = min us.length ws.length := by unfold zipD; rw [List.length_zipWith, h2.len, h5.len]
    refine ⟨A, B, us, ws, rfl, .inr ⟨SqT.of (minus_some h1).1, SqT.of (minus_some h4).1, q _ H1 (fun H => SqT X.K H A us ∧ SqT X.K H B ws) _ n (walk_zipT hl) (fun H2 k => ⟨SqT.of (k.tk _ _ h1 rfl), SqT.of (k.tk _ _ h4 rfl)⟩) fun i Ha x Hb hi k y => ?_⟩⟩
    obtain ⟨T, u, w, rfl, nT, rfl, y1, y2⟩ := y
    obtain ⟨d1, g1, d1'⟩ := h2.get y1
    obtain ⟨d2, g2, d2'⟩ := h5.get y2
    have kp : TK Ha (upd Ha T (.tup [u, w])) := (Keep.new nT).tk
    refine ⟨.inr ⟨T, _, nT, rfl⟩, .t [d1, d2], ?_, T, [u, w], rfl, upd_same, dns_cons ((d1'.k k.tk).k kp) (dns_cons ((d2'.k k.tk).k kp) dns_nil)⟩
    unfold zipD
    rw [List.getElem?_zipWith, g1, g2]⟩
end

/-! ### targets -/
/-- slots set to data, from the left -/
def setD : List Nat → List D → En → En
  | j :: js, d :: ds, Γ => setD js ds (Γ.set j (.d d))
  | _, _, Γ => Γ
/-- a target: the slots js; what it makes of an item -/
structure Tg (K : PySem.W.Frag) (g : TG) (js : List Nat) (S : D → En → Option En) : Prop where
  run : ∀ (Z : Hd) (σ : St) (Γ Γ' : En) (H H0 : Hp) (d : D) (v : V) (Q : St → Hp → Prop), Ok K H0 Z σ Γ H → Dn K (minus Z σ Γ H) d v → S d Γ = some Γ' →
    (∀ σ', (∀ i, i ∉ js → σ'[i]? = σ[i]?) → Ok K H0 Z σ' Γ' H → Q σ' H) → g v σ H Q
  same : ∀ d Γ Γ', S d Γ = some Γ' → (∀ i, i ∉ js → Γ'[i]? = Γ[i]?) ∧ (∀ i ∈ js, ∀ c, Γ'[i]? ≠ some (.o c)) ∧ Γ'.length = Γ.length
section
variable {X : Cx} {K : PySem.W.Frag}
def S1 (j : Nat) : D → En → Option En := fun d Γ => if j < Γ.length then some (Γ.set j (.d d)) else none
theorem getElem?_set_of {α : Type} {l : List α} {i j : Nat} {x : α} (h : (l.set i x)[j]? = some x → False) (e : i = j) (hl : i < l.length) : False := by
  subst e
  exact h (List.getElem?_set_self hl)
theorem tg_name (j : Nat) : Tg K (gName j) [j] (S1 j) := by
  refine ⟨fun Z σ Γ Γ' H H0 d v Q k hd hS q => ?_, fun d Γ Γ' hS => ?_⟩
  · unfold S1 at hS
    split at hS
    · rename_i hl
      cases hS
      refine q _ (fun i hi => ?_) (k.setN (by rw [k.len]; exact hl) (fun c => by simp) ⟨v, rfl, hd⟩)
      rw [List.getElem?_set_ne fun e => hi (by simp [e])]
    · cases hS
  · unfold S1 at hS
    split at hS
    · rename_i hl
      cases hS
      refine ⟨fun i hi => List.getElem?_set_ne fun e => hi (by simp [e]), fun i hi c => ?_, by rw [List.length_set]⟩
      have e : i = j := by simpa using hi
      subst e
      rw [List.getElem?_set_self hl]
      simp
    · cases hS
/-- several names, a tuple of so many items -/
def gNs : List Nat → TGs
  | [] => gNil
  | j :: js => gCons (gName j) (gNs js)
def Sn (js : List Nat) : D → En → Option En := fun d Γ => match d with
  | .t ds => if ds.length = js.length ∧ (js.all fun j => decide (j < Γ.length)) = true then some (setD js ds Γ) else none
  | _ => none
theorem setD_len : ∀ (js : List Nat) (ds : List D) (Γ : En), (setD js ds Γ).length = Γ.length
  | [], _, _ => by simp [setD]
  | _ :: _, [], _ => by simp [setD]
  | j :: js, d :: ds, Γ => by
    show (setD js ds (Γ.set j (.d d))).length = _
    rw [setD_len, List.length_set]
theorem setD_out : ∀ (js : List Nat) (ds : List D) (Γ : En) (i : Nat), i ∉ js → (setD js ds Γ)[i]? = Γ[i]?
  | [], _, _, _, _ => by simp [setD]
  | _ :: _, [], _, _, _ => by simp [setD]
  | j :: js, d :: ds, Γ, i, h => by
    show (setD js ds (Γ.set j (.d d)))[i]? = _
    rw [setD_out js ds _ i fun z => h (List.mem_cons_of_mem _ z), List.getElem?_set_ne fun e => h (by simp [e])]
theorem setD_no : ∀ (js : List Nat) (ds : List D) (Γ : En) (i : Nat) (c : Ct), ds.length = js.length → (∀ j ∈ js, j < Γ.length) → i ∈ js → (setD js ds Γ)[i]? ≠ some (.o c)
  | [], _, _, _, _, _, _, h => by simp at h
  | _ :: _, [], _, _, _, hl, _, _ => by simp at hl
  | j :: js, d :: ds, Γ, i, c, hl, hj, h => by
    show (setD js ds (Γ.set j (.d d)))[i]? ≠ _
    by_cases hi : i ∈ js
    · exact setD_no js ds _ i c (by simpa using hl) (fun k hk => by rw [List.length_set]; exact hj k (List.mem_cons_of_mem _ hk)) hi
    · rw [setD_out js ds _ i hi]
      have e : i = j := (List.mem_cons.mp h).elim id fun z => absurd z hi
      subst e
      rw [List.getElem?_set_self (hj i List.mem_cons_self)]
      simp
theorem gNs_run {Z : Hd} {H0 H : Hp} : ∀ (js : List Nat) (ds : List D) (vs : List V) (σ : St) (Γ : En) (Q : St → Hp → Prop), ds.length = js.length → (∀ j ∈ js, j < Γ.length) → Ok K H0 Z σ Γ H → Dns K (minus Z σ Γ H) ds vs →
    (∀ σ', (∀ i, i ∉ js → σ'[i]? = σ[i]?) → Ok K H0 Z σ' (setD js ds Γ) H → Q σ' H) → gNs js vs σ H Q
  | [], [], vs, σ, Γ, Q, _, _, k, hd, q => ⟨hd, q σ (fun _ _ => rfl) k⟩
  | [], _ :: _, _, _, _, _, hl, _, _, _, _ => by simp at hl
  | _ :: _, [], _, _, _, _, hl, _, _, _, _ => by simp at hl
  | j :: js, d :: ds, _, σ, Γ, Q, hl, hj, k, ⟨v, r, e, h1, h2⟩, q => by
    subst e
    have jl : j < Γ.length := hj j List.mem_cons_self
    have k1 := k.setN (i := j) (s := .d d) (v := some v) (by rw [k.len]; exact jl) (fun c => by simp) ⟨v, rfl, h1⟩
    have lessB : Keep (minus Z σ Γ H) (minus Z (σ.set j (some v)) (Γ.set j (.d d)) H) := minus_less fun b => own_set_less fun c => by simp
    refine ⟨v, r, rfl, gNs_run js ds r _ _ Q (by simpa using hl) (fun i hi => by rw [List.length_set]; exact hj i (List.mem_cons_of_mem _ hi)) k1 (h2.k lessB.tk) fun σ' h' k' => q σ' (fun i hi => ?_) k'⟩
    rw [h' i fun z => hi (List.mem_cons_of_mem _ z), List.getElem?_set_ne fun e => hi (by simp [e])]
theorem Sn_of {js : List Nat} {d : D} {Γ Γ' : En} (h : Sn js d Γ = some Γ') : ∃ ds, d = .t ds ∧ ds.length = js.length ∧ (∀ j ∈ js, j < Γ.length) ∧ Γ' = setD js ds Γ := by
  unfold Sn at h
  split at h
  · split at h
    · rename_i hl
      cases h
      refine ⟨_, rfl, hl.1, fun j hj => ?_, rfl⟩
      exact of_decide_eq_true (List.all_eq_true.mp hl.2 j hj)
    · cases h
  · cases h
theorem tg_names (js : List Nat) : Tg K (gTup K js.length (gNs js)) js (Sn js) := by
  refine ⟨fun Z σ Γ Γ' H H0 d v Q ok hd hS q => ?_, fun d Γ Γ' hS => ?_⟩
  · obtain ⟨ds, rfl, hl, hj, rfl⟩ := Sn_of hS
    obtain ⟨a, vs, e, h1, h2⟩ := hd
    exact ⟨a, vs, e, SqT.of (minus_some h1).1, by rw [h2.len, hl], gNs_run js ds vs σ Γ Q hl hj ok h2 q⟩
  · obtain ⟨ds, rfl, hl, hj, rfl⟩ := Sn_of hS
    exact ⟨fun i hi => setD_out js ds Γ i hi, fun i hi c => setD_no js ds Γ i c hl hj hi, setD_len js ds Γ⟩
end

/-! ### a comprehension's own slots -/
structure Sub (vs : List Nat) (σ : St) (Γ : En) (σ2 : St) (Γ2 : En) : Prop where
  st : ∀ i, i ∉ vs → σ2[i]? = σ[i]?
  en : ∀ i, i ∉ vs → Γ2[i]? = Γ[i]?
  u : ∀ i ∈ vs, ∀ s, Γ[i]? = some s → s = .u
  no : ∀ i ∈ vs, ∀ c, Γ2[i]? ≠ some (.o c)
  l1 : σ.length = σ2.length
  l2 : Γ.length = Γ2.length
section
variable {K : PySem.W.Frag} {vs : List Nat} {σ σ2 : St} {Γ Γ2 : En} {H H' : Hp} {b : Addr} {Z : Hd}
theorem Sub.own (S : Sub vs σ Γ σ2 Γ2) : Own Z σ2 Γ2 b ↔ Own Z σ Γ b := by
  constructor
  · rintro (z | ⟨i, c, h1, h2⟩)
    · exact .inl z
    · by_cases hi : i ∈ vs
      · exact absurd h1 (S.no i hi c)
      · exact .inr ⟨i, c, by rw [← S.en i hi]; exact h1, by rw [← S.st i hi]; exact h2⟩
  · rintro (z | ⟨i, c, h1, h2⟩)
    · exact .inl z
    · by_cases hi : i ∈ vs
      · have := S.u i hi _ h1
        cases this
      · exact .inr ⟨i, c, by rw [S.en i hi]; exact h1, by rw [S.st i hi]; exact h2⟩
theorem Sub.minus (S : Sub vs σ Γ σ2 Γ2) : minus Z σ2 Γ2 H = minus Z σ Γ H := minus_iff fun _ => S.own
theorem Sub.back (S : Sub vs σ Γ σ2 Γ2) (k : OkS K Z σ2 Γ2 H) : OkS K Z σ Γ H := by
  have nv : ∀ {i : Nat} {c : Ct}, Γ[i]? = some (.o c) → i ∉ vs := fun {i c} e hi => by
    have := S.u i hi _ e
    cases this
  refine ⟨by rw [S.l1, S.l2]; exact k.len, fun i s e => ?_, fun i j c c' b e1 e2 e3 e4 => ?_, k.zo, fun i c b e1 e2 => ?_, fun P hP => by rw [← S.minus]; exact k.tb P hP⟩
  · by_cases hi : i ∈ vs
    · have e' := S.u i hi s e
      subst e'
      have hl : i < σ.length := by rw [S.l1, k.len, ← S.l2]; exact (List.getElem?_eq_some_iff.mp e).1
      exact ⟨σ[i], List.getElem?_eq_getElem hl, trivial⟩
    · obtain ⟨v, e1, q⟩ := k.sl i s (by rw [S.en i hi]; exact e)
      rw [S.minus] at q
      exact ⟨v, by rw [← S.st i hi]; exact e1, q⟩
  · have n1 := nv e1
    have n2 := nv e2
    exact k.dist i j c c' b (by rw [S.en i n1]; exact e1) (by rw [S.en j n2]; exact e2) (by rw [S.st i n1]; exact e3) (by rw [S.st j n2]; exact e4)
  · have n1 := nv e1
    exact k.zd i c b (by rw [S.en i n1]; exact e1) (by rw [S.st i n1]; exact e2)
theorem Sub.nx (S : Sub vs σ Γ σ2 Γ2) (n : Nx K Z σ2 Γ2 H H') : Nx K Z σ Γ H H' := ⟨S.back n.ok, by rw [← S.minus, ← S.minus]; exact n.kp, n.fr, n.zs⟩
/-- the slots wiped -/
theorem wipe_ok (h : ∀ i ∈ vs, ∀ s, Γ[i]? = some s → s = .u) (k : OkS K Z σ Γ H) : OkS K Z (wipe σ vs) Γ H ∧ Sub vs σ Γ (wipe σ vs) Γ := by
  have S : Sub vs σ Γ (wipe σ vs) Γ := ⟨fun i hi => wipe_out hi, fun _ _ => rfl, h, fun i hi c e => (by have := h i hi _ e; cases this), (wipe_length σ vs).symm, rfl⟩
  have nv : ∀ {i : Nat} {c : Ct}, Γ[i]? = some (.o c) → i ∉ vs := fun {i c} e hi => by
    have := h i hi _ e
    cases this
  refine ⟨⟨by rw [wipe_length]; exact k.len, fun i s e => ?_, fun i j c c' b e1 e2 e3 e4 => ?_, k.zo, fun i c b e1 e2 => ?_, fun P hP => by rw [S.minus]; exact k.tb P hP⟩, S⟩
  · by_cases hi : i ∈ vs
    · have e' := h i hi s e
      subst e'
      have hl : i < (wipe σ vs).length := by rw [wipe_length, k.len]; exact (List.getElem?_eq_some_iff.mp e).1
      exact ⟨_, List.getElem?_eq_getElem hl, trivial⟩
    · obtain ⟨v, e1, q⟩ := k.sl i s e
      rw [← S.minus] at q
      exact ⟨v, by rw [wipe_out hi]; exact e1, q⟩
  · rw [wipe_out (nv e1)] at e3
    rw [wipe_out (nv e2)] at e4
    exact k.dist i j c c' b e1 e2 e3 e4
  · rw [wipe_out (nv e1)] at e2
    exact k.zd i c b e1 e2
theorem wipe_in {σ : St} {i : Nat} : ∀ {vs : List Nat}, i ∈ vs → i < σ.length → (wipe σ vs)[i]? = some none
  | v :: vs, hi, hl => by
    unfold wipe
    by_cases e : v = i
    · subst e
      rw [List.getElem?_set_self (by rw [wipe_length]; exact hl)]
    · rw [List.getElem?_set_ne e]
      rcases List.mem_cons.mp hi with z | z
      · exact absurd z.symm e
      · exact wipe_in z hl
theorem wipe_eq {js : List Nat} (hl : σ2.length = σ.length) (h : ∀ i, i ∉ js → σ2[i]? = σ[i]?) (hj : ∀ i ∈ js, i ∈ vs) : wipe σ2 vs = wipe σ vs := by
  apply List.ext_getElem?
  intro i
  by_cases hi : i ∈ vs
  · by_cases hlt : i < σ.length
    · rw [wipe_in hi hlt, wipe_in hi (by rw [hl]; exact hlt)]
    · rw [List.getElem?_eq_none (by rw [wipe_length, hl]; omega), List.getElem?_eq_none (by rw [wipe_length]; omega)]
  · rw [wipe_out hi, wipe_out hi]
    exact h i fun z => hi (hj i z)
theorem wipe_wipe : wipe (wipe σ vs) vs = wipe σ vs := wipe_eq (js := vs) (wipe_length σ vs) (fun i hi => wipe_out hi) fun _ h => h
end

/-- an unused slot -/
def isU : Option Sl → Bool
  | some .u => true
  | none => true
  | _ => false
theorem isU_of {Γ : En} {i : Nat} (h : isU Γ[i]? = true) : ∀ s, Γ[i]? = some s → s = .u := fun s e => by
  rw [e] at h
  cases s <;> first | rfl | cases h
theorem hu_of_own {Γ : En} {own : List (Str × Nat)} (h : (own.all fun p => isU Γ[p.2]?) = true) : ∀ i ∈ own.map (·.2), ∀ s, Γ[i]? = some s → s = .u := fun i hi => by
  obtain ⟨p, hp, e⟩ := List.mem_map.mp hi
  subst e
  exact isU_of (List.all_eq_true.mp h p hp)
theorem hu_of_vs {Γ : En} {vs : List Nat} (h : (vs.all fun i => isU Γ[i]?) = true) : ∀ i ∈ vs, ∀ s, Γ[i]? = some s → s = .u := fun i hi => isU_of (List.all_eq_true.mp h i hi)

/-! ### comprehensions -/
def tAny {α : Type} (xs : List α) (ok : α → Prop) (te : α → TE) : TE := fun σ H Q => ∃ x, x ∈ xs ∧ ok x ∧ te x σ H Q
def tAnyT {α : Type} (xs : List α) (te : α → TT) : TT := fun σ H Q => ∃ x, x ∈ xs ∧ te x σ H Q
def tAnyI {α : Type} (xs : List α) (te : α → TI) : TI := fun σ H Q => ∃ x, x ∈ xs ∧ te x σ H Q
theorem pe_any {X : Cx} {e : Expr} {α : Type} {xs : List α} {ok : α → Prop} {te : α → TE} (h : ∀ x ∈ xs, ok x → PE X e (te x)) : PE X e (tAny xs ok te) := ⟨fun pins s σ H Q I ⟨x, hx, o, q⟩ => (h x hx o).run pins s σ H Q I q⟩
theorem pts_any {X : Cx} {ifs : List Expr} {α : Type} {xs : List α} {te : α → TT} (h : ∀ x ∈ xs, PTs X ifs (te x)) : PTs X ifs (tAnyT xs te) := ⟨fun pins s σ H Q I ⟨x, hx, q⟩ => (h x hx).run pins s σ H Q I q⟩
theorem pi_any {X : Cx} {tg e : Expr} {α : Type} {xs : List α} {te : α → TI} (h : ∀ x ∈ xs, PI X tg e (te x)) : PI X tg e (tAnyI xs te) := ⟨fun pins s σ H Q I ⟨x, hx, q⟩ => (h x hx).run pins s σ H Q I q⟩
theorem pts_imp {X : Cx} {ifs : List Expr} {t t' : TT} (h : PTs X ifs t) (w : ∀ σ H Q, t' σ H Q → t σ H Q) : PTs X ifs t' := ⟨fun pins s σ H Q I q => h.run pins s σ H Q I (w σ H Q q)⟩
theorem jts_nil {X : Cx} {K : PySem.W.Frag} {Γ : En} : PTs X [] (tT K Γ true) := pts_imp pts_nil fun σ H Q ⟨Z, k, q⟩ => q H (Nx.refl k)
theorem jts_one {X : Cx} {K : PySem.W.Frag} {Γ : En} {c : Expr} {b : Bool} (h : PT X c (tT K Γ b)) : PTs X [c] (tT K Γ b) := pts_one h
section
variable {X : Cx} {Γ : En} {elt tg iter tg1 iter1 : Expr} {ifs ifs1 : List Expr} {scope : Scope} {own : List (Str × Nat)} {pos : Pos} {g g1 : TG} {js js1 : List Nat} {S S1 : D → En → Option En} {α β : Type} {Z : Hd}
theorem filt_take {xs : List α} {i : Nat} {x : α} (pb : α → Bool) (f : α → D) (h : xs[i]? = some x) : ((xs.take (i + 1)).filter pb).map f = if pb x = true then ((xs.take i).filter pb).map f ++ [f x] else ((xs.take i).filter pb).map f := by
  rw [List.take_add_one, h, List.filter_append, List.map_append]
  cases e : pb x with
  | true => simp [e]
  | false => simp [e]
/-- the new list so far: it is hidden -/
def Acc (K : PySem.W.Frag) (Z : Hd) (σ : St) (Γ : En) (Dl : Addr) (H1 : Hp) (ds : List D) (H : Hp) : Prop :=
  OkS K (fun b => Z b ∨ b = Dl) σ Γ H ∧ Keep (minus Z σ Γ H1) (minus (fun b => Z b ∨ b = Dl) σ Γ H) ∧ (∀ b o, H1 b = some o → ∃ o', H b = some o') ∧ (∀ b, Z b → H b = H1 b) ∧ ∃ acc, H Dl = some (.lst acc) ∧ Dns K (minus (fun b => Z b ∨ b = Dl) σ Γ H) ds acc
section
variable {K : PySem.W.Frag} {σ σ2 : St} {Γ2 : En} {vs : List Nat} {Dl : Addr} {H1 H2 H3 : Hp} {ds : List D} {d : D} {y : V}
theorem Acc.start (k : OkS K Z σ Γ H1) (hD : H1 Dl = none) : Acc K Z σ Γ Dl H1 [] (upd H1 Dl (.lst [])) := by
  obtain ⟨k1, e⟩ := Nx.hide (ob := .lst []) k hD rfl rfl
  refine ⟨k1, by rw [e]; exact Keep.refl _, fun b o h => ⟨o, by rw [upd_ne (ne_of_none h hD)]; exact h⟩, fun b z => ?_, [], upd_same, dns_nil⟩
  obtain ⟨o, h, _⟩ := k.zo b z
  rw [upd_ne (ne_of_none h hD)]
theorem Acc.nx (a : Acc K Z σ Γ Dl H1 ds H2) (n : Nx K (fun b => Z b ∨ b = Dl) σ Γ H2 H3) : Acc K Z σ Γ Dl H1 ds H3 := by
  obtain ⟨k, kp, fr, zs, acc, h1, h2⟩ := a
  refine ⟨n.ok, kp.trans n.kp, fun b o e => ?_, fun b z => (n.zs b (.inl z)).trans (zs b z), acc, (n.zs Dl (.inr rfl)).trans h1, h2.k n.kp.tk⟩
  obtain ⟨o', e'⟩ := fr b o e
  exact n.fr b o' e'
theorem Acc.app (a : Acc K Z σ Γ Dl H1 ds H2) (hd : Dn K (minus (fun b => Z b ∨ b = Dl) σ Γ H2) d y) (hz : ds.length ≤ 100000) (hD : H1 Dl = none) (k1 : OkS K Z σ Γ H1) : ∃ acc, H2 Dl = some (.lst acc) ∧ acc.length < sizeLine ∧ Acc K Z σ Γ Dl H1 (ds ++ [d]) (upd H2 Dl (.lst (acc ++ [y]))) := by
  obtain ⟨k, kp, fr, zs, acc, h1, h2⟩ := a
  refine ⟨acc, h1, Nat.lt_of_lt_of_le (show acc.length < 100001 by rw [h2.len]; omega) (by decide), ?_⟩
  obtain ⟨k2, e⟩ := OkS.hid (ob := .lst (acc ++ [y])) k (.inr rfl : (fun b => Z b ∨ b = Dl) Dl) rfl rfl
  refine ⟨k2, by rw [e]; exact kp, fun b o h => ?_, fun b z => ?_, _, upd_same, by rw [e]; exact h2.snoc hd⟩
  · by_cases hb : b = Dl
    · exact ⟨_, by rw [hb, upd_same]⟩
    · rw [upd_ne hb]
      exact fr b o h
  · obtain ⟨o, h, _⟩ := k1.zo b z
    rw [upd_ne (ne_of_none h hD)]
    exact zs b z
theorem Acc.fin (a : Acc K Z σ Γ Dl H1 ds H2) (hD : H1 Dl = none) (k1 : OkS K Z σ Γ H1) : Nx K Z σ Γ H1 H2 ∧ ∃ ob, H2 Dl = some ob ∧ (cl K ds).on Dl ob H2 := by
  obtain ⟨k, kp, fr, zs, acc, h1, h2⟩ := a
  obtain ⟨k2, kp2⟩ := k.show h1 fun z => k1.fresh hD (.inl z)
  exact ⟨⟨k2, kp.trans kp2, fr, zs⟩, _, h1, acc, rfl, h2.k minus_keep.tk⟩
end
theorem ext_nx {K : PySem.W.Frag} {σ : St} {H2 H3 : Hp} (k : OkS K Z σ Γ H2) (ext : H3 = H2 ∨ ∃ T o, H2 T = none ∧ H3 = upd H2 T o) : Nx K Z σ Γ H2 H3 := by
  rcases ext with e | ⟨T, o, hT, e⟩
  · rw [e]
    exact Nx.refl k
  · rw [e]
    exact Nx.new k hT
/-- a turn's item goes to the target's slots -/
theorem turn_in {K : PySem.W.Frag} {σ : St} {H3 : Hp} {vs : List Nat} {d : D} {x : V} {Γe : En} {Q : St → Hp → Prop} (hT : Tg K g js S) (hj : ∀ i ∈ js, i ∈ vs) (hu : ∀ i ∈ vs, ∀ s, Γ[i]? = some s → s = .u) (hS : S d Γ = some Γe) (k : OkS K Z σ Γ H3) (hd : Dn K H3 d x)
    (h : ∀ σ2, wipe σ2 vs = wipe σ vs → Sub vs σ Γ σ2 Γe → OkS K Z σ2 Γe H3 → Q σ2 H3) : g x (wipe σ vs) H3 Q := by
  obtain ⟨kw, Sw⟩ := wipe_ok hu k
  refine hT.run Z (wipe σ vs) Γ Γe H3 (minus Z (wipe σ vs) Γ H3) d x _ ⟨kw, Keep.refl _⟩ (by rw [Sw.minus]; exact hd.k k.tk) hS fun σ2 hσ2 k2 => ?_
  obtain ⟨s1, s2, s3⟩ := hT.same _ _ _ hS
  have hl2 : σ2.length = (wipe σ vs).length := by rw [k2.len, kw.len]; exact s3
  refine h σ2 (by rw [wipe_eq hl2 hσ2 hj, wipe_wipe]) ⟨fun i hi => by rw [hσ2 i fun z => hi (hj i z), wipe_out hi], fun i hi => s1 i fun z => hi (hj i z), hu, fun i hi c e => ?_, by rw [hl2, wipe_length], s3.symm⟩ k2.toOkS
  by_cases hj2 : i ∈ js
  · exact s2 i hj2 c e
  · rw [s1 i hj2] at e
    have := hu i hi _ e
    cases this
theorem lc_sem {xs : List α} {enc f : α → D} {pb : α → Bool} {Γe : α → En} {σ : St} {H : Hp} {Q : VK} {vs : List Nat} (hT : Tg X.K g js S) (hj : ∀ i ∈ js, i ∈ vs) (hu : ∀ i ∈ vs, ∀ s, Γ[i]? = some s → s = .u) (hS : ∀ x ∈ xs, S (enc x) Γ = some (Γe x)) (hz : xs.length ≤ 100000)
    (q : tF X.K Γ (· = cl X.K ((xs.filter pb).map f)) σ H Q) : tLc (tI X.K Γ (xs.map enc)) g (tAnyT xs fun x => tT X.K (Γe x) (pb x)) (tAny xs (fun x => pb x = true) fun x => tR X.K (Γe x) (.d (f x))) vs σ H Q := by
  obtain ⟨Z, k, q⟩ := q
  refine ⟨Z, k, fun J H1 G Y n w hG hY Dl hD => ?_⟩
  refine lc_it w (fun i H2 => Acc X.K Z σ Γ Dl H1 (((xs.take i).filter pb).map f) H2) (Acc.start n.ok hD) (fun i H2 _ p => hG H2 (p.2.1.trans minus_keep)) (fun i x H2 H3 hi p y => ?_) (fun H2 p => ?_)
  · obtain ⟨ext, d, hd, hdn⟩ := hY i H2 x H3 hi (p.2.1.trans minus_keep) y
    obtain ⟨xe, hx, rfl⟩ : ∃ xe, xs[i]? = some xe ∧ enc xe = d := by
      rw [List.getElem?_map] at hd
      exact Option.map_eq_some_iff.mp hd
    have hmem : xe ∈ xs := List.mem_of_getElem? hx
    have n3 := ext_nx p.1 ext
    have p3 := p.nx n3
    refine turn_in hT hj hu (hS xe hmem) p3.1 hdn fun σ2 wq S2 k2 => ⟨wq, xe, hmem, _, k2, fun H4 n4 => ?_⟩
    have p4 := p3.nx (S2.nx n4)
    have hlt : i < xs.length := (List.getElem?_eq_some_iff.mp hx).1
    rw [filt_take pb f hx]
    cases hp : pb xe with
    | true =>
      rw [if_pos rfl]
      refine ⟨xe, hmem, hp, _, n4.ok, fun y H5 n5 r5 => ?_⟩
      have r5' : Dn X.K (minus (fun b => Z b ∨ b = Dl) σ Γ H5) (f xe) y := by
        rw [← S2.minus]
        exact r5
      refine (p4.nx (S2.nx n5)).app r5' ?_ hD n.ok
      rw [List.length_map]
      refine Nat.le_trans (List.length_filter_le _ _) ?_
      rw [List.length_take]
      omega
    | false =>
      rw [if_neg Bool.false_ne_true]
      exact p4
  · rw [List.length_map, List.take_length] at p
    obtain ⟨n2, ob, h1, h2⟩ := p.fin hD n.ok
    exact q _ Dl ob H2 rfl (n.trans n2) (n.free hD) h1 h2
/-- [elt for target in iter if ..] -/
theorem je_lc {xs : List α} {enc f : α → D} {pb : α → Bool} {Γe : α → En} (own : List (Str × Nat)) (hc : X.calm = true) (hN : X.N.Nodup) (hi : PI X tg iter (tI X.K Γ (xs.map enc))) (ok : BlkOk X.N X.env.scope scope own) (hT : Tg X.K g js S) (hj : ∀ i ∈ js, i ∈ own.map (·.2)) (hu : (own.all fun p => isU Γ[p.2]?) = true)
    (hS : ∀ x ∈ xs, S (enc x) Γ = some (Γe x)) (hz : xs.length ≤ 100000)
    (hg : ∀ (s : Shared) (H : Hp) (C : Addr) (cl : List (Str × Addr)) (fp : List Addr), PG (X.blk s H scope (compEnvC scope cl C X.env) fp) tg g)
    (ht : ∀ x ∈ xs, ∀ (s : Shared) (H : Hp) (C : Addr) (cl : List (Str × Addr)) (fp : List Addr), PTs (X.blk s H scope (compEnvC scope cl C X.env) fp) ifs (tT X.K (Γe x) (pb x)))
    (he : ∀ x ∈ xs, pb x = true → ∀ (s : Shared) (H : Hp) (C : Addr) (cl : List (Str × Addr)) (fp : List Addr), PE (X.blk s H scope (compEnvC scope cl C X.env) fp) elt (tR X.K (Γe x) (.d (f x)))) (hs : ∀ x, foldedSetIterable iter X.env x = pure x := by intro _; rfl) :
    PE X (.ListComp elt [⟨tg, iter, ifs, 0⟩] scope pos) (tF X.K Γ (· = cl X.K ((xs.filter pb).map f))) :=
  pe_imp (pe_lc hc hN hi ok hg (fun s H C cl fp => pts_any fun x hx => ht x hx s H C cl fp) (fun s H C cl fp => pe_any fun x hx hp => he x hx hp s H C cl fp) hs) fun σ H Q q => lc_sem hT hj (hu_of_own hu) hS hz q

/-! two clauses -/
theorem lc_it2 {J : It} {n : Nat} {G : Hp → Prop} {Y : Nat → Hp → V → Hp → Prop} (w : Walk J n G Y) {H4 : Hp} {Qd : Hp → Prop} {B : V → Hp → (Hp → Prop) → Prop} (Pv : Nat → Hp → Prop) (h0 : Pv 0 H4) (hG : ∀ i H, i ≤ n → Pv i H → G H)
    (hs : ∀ i x H H', i < n → Pv i H → Y i H x H' → B x H' (Pv (i + 1))) (hd : ∀ H, Pv n H → Qd H) :
    ∃ W1 : Nat → Nat → Hp → Prop, (∃ m, W1 0 m H4) ∧ ∀ j k H, W1 j k H → (J.stop j H ∧ Qd H) ∨ (J.go j H ∧ ∃ Nx1 : Hp → Prop, (∀ H', Nx1 H' → ∃ k', k' < k ∧ W1 (j + 1) k' H') ∧ ∀ x H', J.yld j H x H' → B x H' Nx1) := by
  refine ⟨fun i m H => m = n - i ∧ i ≤ n ∧ Pv i H, ⟨n, by simp, Nat.zero_le _, h0⟩, ?_⟩
  rintro i m H ⟨rfl, hi, p⟩
  have q := hG i H hi p
  by_cases hlt : i < n
  · exact .inr ⟨w.goes i H hlt q, Pv (i + 1), fun H' p' => ⟨n - (i + 1), by omega, rfl, hlt, p'⟩, fun x H' y => hs i x H H' hlt p (w.yields i H x H' hlt q y)⟩
  · have e : i = n := by omega
    subst e
    exact .inl ⟨w.stops H q, hd H p⟩
theorem flat_take {xs : List α} {i : Nat} {x : α} (F : α → List D) (h : xs[i]? = some x) : (xs.take (i + 1)).flatMap F = (xs.take i).flatMap F ++ F x := by
  rw [List.take_add_one, h, List.flatMap_append]
  simp
theorem lc2_sem {xs : List α} {ys : α → List β} {enc : α → D} {enc1 : α → β → D} {f : α → β → D} {pb : α → β → Bool} {Γe : α → En} {Γf : α → β → En} {σ : St} {H : Hp} {Q : VK} {vs vs1 : List Nat} (hT : Tg X.K g js S) (hj : ∀ i ∈ js, i ∈ vs) (hu : ∀ i ∈ vs, ∀ s, Γ[i]? = some s → s = .u)
    (hS : ∀ x ∈ xs, S (enc x) Γ = some (Γe x)) (hT1 : Tg X.K g1 js1 S1) (hj1 : ∀ i ∈ js1, i ∈ vs1) (hu1 : ∀ x ∈ xs, ∀ i ∈ vs1, ∀ s, (Γe x)[i]? = some s → s = .u) (hS1 : ∀ x ∈ xs, ∀ y ∈ ys x, S1 (enc1 x y) (Γe x) = some (Γf x y)) (hz : (xs.flatMap fun x => ((ys x).filter (pb x)).map (f x)).length ≤ 100000)
    (q : tF X.K Γ (· = cl X.K (xs.flatMap fun x => ((ys x).filter (pb x)).map (f x))) σ H Q) :
    tLc2 (tI X.K Γ (xs.map enc)) g (tAnyT xs fun x => tT X.K (Γe x) true) (tAnyI xs fun x => tI X.K (Γe x) ((ys x).map (enc1 x))) g1 (tAnyT xs fun x => tAnyT (ys x) fun y => tT X.K (Γf x y) (pb x y)) (tAny xs (fun _ => True) fun x => tAny (ys x) (fun y => pb x y = true) fun y => tR X.K (Γf x y) (.d (f x y))) vs vs1 σ H Q := by
  obtain ⟨Z, k, q⟩ := q
  refine ⟨Z, k, fun J H1 G Y n w hG hY Dl hD => ?_⟩
  have short : ∀ i j x, xs[i]? = some x → (((xs.take i).flatMap fun x => ((ys x).filter (pb x)).map (f x)) ++ (((ys x).take j).filter (pb x)).map (f x)).length ≤ 100000 := fun i j x hx => by
    refine Nat.le_trans ?_ hz
    have e : xs = xs.take i ++ (x :: xs.drop (i + 1)) := by
      have h2 := (List.getElem?_eq_some_iff.mp hx)
      conv => lhs; rw [← List.take_append_drop i xs, List.drop_eq_getElem_cons h2.1, h2.2]
    rw [List.length_append]
    conv => rhs; rw [e, List.flatMap_append, List.length_append, List.flatMap_cons, List.length_append]
    have h1 : ((((ys x).take j).filter (pb x)).map (f x)).length ≤ (((ys x).filter (pb x)).map (f x)).length := by
      rw [List.length_map, List.length_map]
      exact ((List.take_sublist j (ys x)).filter (pb x)).length_le
    omega
  refine lc_it2 w (fun i H2 => Acc X.K Z σ Γ Dl H1 ((xs.take i).flatMap fun x => ((ys x).filter (pb x)).map (f x)) H2) (Acc.start n.ok hD) (fun i H2 _ p => hG H2 (p.2.1.trans minus_keep)) (fun i x H2 H3 hi p y => ?_) (fun H2 p => ?_)
  · obtain ⟨ext, d, hd, hdn⟩ := hY i H2 x H3 hi (p.2.1.trans minus_keep) y
    obtain ⟨xe, hx, rfl⟩ : ∃ xe, xs[i]? = some xe ∧ enc xe = d := by
      rw [List.getElem?_map] at hd
      exact Option.map_eq_some_iff.mp hd
    have hmem : xe ∈ xs := List.mem_of_getElem? hx
    have p3 := p.nx (ext_nx p.1 ext)
    refine turn_in hT hj hu (hS xe hmem) p3.1 hdn fun σ2 wq S2 k2 => ⟨wq, xe, hmem, _, k2, fun H4 n4 => ?_⟩
    have p4 := p3.nx (S2.nx n4)
    refine (show tAnyI xs (fun x => tI X.K (Γe x) (List.map (enc1 x) (ys x))) σ2 H4 _ from ?_)
    refine ⟨xe, hmem, _, n4.ok, fun J1 H5 G1 Y1 n5 w1 hG1 hY1 => ?_⟩
    have p5 := p4.nx (S2.nx n5)
    have e0 : ∀ H6, Acc X.K Z σ Γ Dl H1 (((xs.take i).flatMap fun x => ((ys x).filter (pb x)).map (f x)) ++ (((ys xe).take (ys xe).length).filter (pb xe)).map (f xe)) H6 → Acc X.K Z σ Γ Dl H1 ((xs.take (i + 1)).flatMap fun x => ((ys x).filter (pb x)).map (f x)) H6 := fun H6 q6 => by
      rw [flat_take _ hx]
      rw [List.take_length] at q6
      exact q6
    refine lc_it2 w1 (fun j H6 => Acc X.K Z σ Γ Dl H1 (((xs.take i).flatMap fun x => ((ys x).filter (pb x)).map (f x)) ++ (((ys xe).take j).filter (pb xe)).map (f xe)) H6 ∧ OkS X.K (fun b => Z b ∨ b = Dl) σ2 (Γe xe) H6 ∧ Keep (minus (fun b => Z b ∨ b = Dl) σ2 (Γe xe) H5) (minus (fun b => Z b ∨ b = Dl) σ2 (Γe xe) H6)) ⟨?_, n5.ok, Keep.refl _⟩ (fun j H6 _ p6 => hG1 H6 (p6.2.2.trans minus_keep)) (fun j y H6 H7 hj' p6 y6 => ?_) (fun H6 p6 => ?_)
    · rw [List.take_zero, List.filter_nil, List.map_nil, List.append_nil]
      exact p5
    · obtain ⟨q6, k6, kp6⟩ := p6
      obtain ⟨ext1, d1, hd1, hdn1⟩ := hY1 j H6 y H7 hj' (kp6.trans minus_keep) y6
      obtain ⟨ye, hy, rfl⟩ : ∃ ye, (ys xe)[j]? = some ye ∧ enc1 xe ye = d1 := by
        rw [List.getElem?_map] at hd1
        exact Option.map_eq_some_iff.mp hd1
      have hmem1 : ye ∈ ys xe := List.mem_of_getElem? hy
      have n7 := ext_nx k6 ext1
      have p7 := q6.nx (S2.nx n7)
      refine turn_in hT1 hj1 (hu1 xe hmem) (hS1 xe hmem ye hmem1) n7.ok hdn1 fun σ3 wq3 S3 k3 => ⟨wq3, xe, hmem, ye, hmem1, _, k3, fun H8 n8 => ?_⟩
      have n8' := S3.nx n8
      have p8 := p7.nx (S2.nx n8')
      rw [filt_take (pb xe) (f xe) hy]
      cases hp : pb xe ye with
      | true =>
        rw [if_pos rfl]
        refine ⟨xe, hmem, trivial, ye, hmem1, hp, _, n8.ok, fun v H9 n9 r9 => ?_⟩
        have n9' := S3.nx n9
        have p9 := p8.nx (S2.nx n9')
        have r9' : Dn X.K (minus (fun b => Z b ∨ b = Dl) σ Γ H9) (f xe ye) v := by
          rw [← S2.minus, ← S3.minus]
          exact r9
        obtain ⟨acc, h1, h2, h3⟩ := p9.app r9' (by have := short i j xe hx; exact this) hD n.ok
        refine ⟨acc, h1, h2, ?_, ?_⟩
        · rw [← List.append_assoc]
          exact h3
        · obtain ⟨k10, e10⟩ := OkS.hid (ob := .lst (acc ++ [v])) n9'.ok (.inr rfl : (fun b => Z b ∨ b = Dl) Dl) rfl rfl
          exact ⟨k10, by rw [e10]; exact ((kp6.trans n7.kp).trans n8'.kp).trans n9'.kp⟩
      | false =>
        rw [if_neg Bool.false_ne_true]
        exact ⟨p8, n8'.ok, (kp6.trans n7.kp).trans n8'.kp⟩
    · rw [List.length_map] at p6
      exact e0 H6 p6.1
  · rw [List.length_map, List.take_length] at p
    obtain ⟨n2, ob, h1, h2⟩ := p.fin hD n.ok
    exact q _ Dl ob H2 rfl (n.trans n2) (n.free hD) h1 h2
/-- [elt for target in iter for target1 in iter1 if ..] -/
theorem je_lc2 {xs : List α} {ys : α → List β} {enc : α → D} {enc1 : α → β → D} {f : α → β → D} {pb : α → β → Bool} {Γe : α → En} {Γf : α → β → En} (own : List (Str × Nat)) (vs1 : List Nat) (hc : X.calm = true) (hN : X.N.Nodup) (hi : PI X tg iter (tI X.K Γ (xs.map enc))) (ok : BlkOk X.N X.env.scope scope own) (hv : ∀ i ∈ vs1, i ∈ own.map (·.2))
    (hT : Tg X.K g js S) (hj : ∀ i ∈ js, i ∈ own.map (·.2)) (hu : (own.all fun p => isU Γ[p.2]?) = true) (hS : ∀ x ∈ xs, S (enc x) Γ = some (Γe x))
    (hT1 : Tg X.K g1 js1 S1) (hj1 : ∀ i ∈ js1, i ∈ vs1) (hu1 : ∀ x ∈ xs, (vs1.all fun i => isU (Γe x)[i]?) = true) (hS1 : ∀ x ∈ xs, ∀ y ∈ ys x, S1 (enc1 x y) (Γe x) = some (Γf x y)) (hz : (xs.flatMap fun x => ((ys x).filter (pb x)).map (f x)).length ≤ 100000)
    (hg : ∀ (s : Shared) (H : Hp) (C : Addr) (cl : List (Str × Addr)) (fp : List Addr), PG (X.blk s H scope (compEnvC scope cl C X.env) fp) tg g)
    (hi1 : ∀ x ∈ xs, ∀ (s : Shared) (H : Hp) (C : Addr) (cl : List (Str × Addr)) (fp : List Addr), PI (X.blk s H scope (compEnvC scope cl C X.env) fp) tg1 iter1 (tI X.K (Γe x) ((ys x).map (enc1 x))))
    (hg1 : ∀ (s : Shared) (H : Hp) (C : Addr) (cl : List (Str × Addr)) (fp : List Addr), PG (X.blk s H scope (compEnvC scope cl C X.env) fp) tg1 g1)
    (ht1 : ∀ x ∈ xs, ∀ y ∈ ys x, ∀ (s : Shared) (H : Hp) (C : Addr) (cl : List (Str × Addr)) (fp : List Addr), PTs (X.blk s H scope (compEnvC scope cl C X.env) fp) ifs1 (tT X.K (Γf x y) (pb x y)))
    (he : ∀ x ∈ xs, ∀ y ∈ ys x, pb x y = true → ∀ (s : Shared) (H : Hp) (C : Addr) (cl : List (Str × Addr)) (fp : List Addr), PE (X.blk s H scope (compEnvC scope cl C X.env) fp) elt (tR X.K (Γf x y) (.d (f x y)))) (hs : ∀ x, foldedSetIterable iter X.env x = pure x := by intro _; rfl) (hs1 : ∀ env x, foldedSetIterable iter1 env x = pure x := by intro _ _; rfl) :
    PE X (.ListComp elt [⟨tg, iter, [], 0⟩, ⟨tg1, iter1, ifs1, 0⟩] scope pos) (tF X.K Γ (· = cl X.K (xs.flatMap fun x => ((ys x).filter (pb x)).map (f x)))) :=
  pe_imp (pe_lc2 hc hN hi ok hv hg (fun s H C cl fp => pts_any fun x hx => jts_nil) (fun s H C cl fp => pi_any fun x hx => hi1 x hx s H C cl fp) hg1 (fun s H C cl fp => pts_any fun x hx => pts_any fun y hy => ht1 x hx y hy s H C cl fp) (fun s H C cl fp => pe_any fun x hx _ => pe_any fun y hy hp => he x hx y hy hp s H C cl fp) hs hs1)
    fun σ H Q q => lc2_sem hT hj (hu_of_own hu) hS hT1 hj1 (fun x hx => hu_of_vs (hu1 x hx)) hS1 hz q
end
end DL
end

section
set_option Elab.async false
set_option linter.all false
set_option maxRecDepth 100000
set_option maxHeartbeats 2000000
/-! D4: statements, defs. -/
namespace DL
open PySem PySem.Spec L2

inductive Out where
  | nx (Γ : En) | rt (Γ : En) (r : Sl) | ct (Γ : En)
def tS (K : PySem.W.Frag) (Γ : En) (Φ : Out → Prop) : TS := fun D σ H => ∃ H0, Ok K H0 noZ σ Γ H ∧ (∀ Γ' σ' H', Φ (.nx Γ') → Ok K H0 noZ σ' Γ' H' → D.nx σ' H') ∧
  (∀ Γ' σ' H' r v, Φ (.rt Γ' r) → Ok K H0 noZ σ' Γ' H' → RetV K H0 H' r v → D.rt v H') ∧ (∀ Γ' σ' H', Φ (.ct Γ') → Ok K H0 noZ σ' Γ' H' → D.ct σ' H')
/-- what is wanted behind a statement: of the rest, a proof -/
def cont (X : Cx) (rest : List Stmt) (Φ : Out → Prop) : Out → Prop
  | .nx Γ => PSs X rest (tS X.K Γ Φ)
  | o => Φ o
section
variable {X : Cx} {K : PySem.W.Frag} {Γ Γ' : En} {a b c e tg : Expr} {es : List Expr} {st : Stmt} {rest body orelse : List Stmt} {pos p p' : Pos} {s : Sl} {d : D} {ds : List D} {Φ Ψ : Out → Prop} {t t' : TS}
theorem ps_imp (h : PS X st t) (w : ∀ D σ H, t' D σ H → t D σ H) : PS X st t' := ⟨fun pins s σ H D I q => h.run pins s σ H D I (w D σ H q)⟩
theorem pss_imp (h : PSs X rest t) (w : ∀ D σ H, t' D σ H → t D σ H) : PSs X rest t' := ⟨fun pins s σ H D I q => h.run pins s σ H D I (w D σ H q)⟩
theorem pss_cond {phi : Prop} (h : phi → PSs X rest t) : PSs X rest (fun D σ H => phi ∧ t D σ H) := ⟨fun pins s σ H D I q => (h q.1).run pins s σ H D I q.2⟩
theorem pss_ex {α : Type} {phi : α → Prop} {t : α → TS} (h : ∀ x, phi x → PSs X rest (t x)) : PSs X rest (fun D σ H => ∃ x, phi x ∧ t x D σ H) := ⟨fun pins s σ H D I ⟨x, hx, q⟩ => (h x hx).run pins s σ H D I q⟩
theorem js_cons (h : PS X st (tS X.K Γ (cont X rest Φ))) : PSs X (st :: rest) (tS X.K Γ Φ) :=
  pss_imp (pss_cons h (pss_ex (α := En) (phi := fun Γ' => PSs X rest (tS X.K Γ' Φ)) (t := fun Γ' => tS X.K Γ' Φ) fun _ h => h)) fun D σ H ⟨H0, ok, h1, h2, h3⟩ => ⟨H0, ok, fun Γ' σ' H' hn k => ⟨Γ', hn, H0, k, h1, h2, h3⟩, h2, h3⟩
theorem js_nil (h : Φ (.nx Γ)) : PSs X [] (tS K Γ Φ) := pss_imp pss_nil fun D σ H ⟨H0, ok, h1, _⟩ => h1 _ _ _ h ok
theorem js_one (h : PS X st (tS X.K Γ Φ)) : PSs X [st] (tS X.K Γ Φ) := pss_one h
/-- what is known ahead, changed: a slot forgotten, an owned list read on -/
theorem js_weak (h : PSs X rest (tS X.K Γ' Φ)) (w : ∀ H0 σ H, Ok X.K H0 noZ σ Γ H → Ok X.K H0 noZ σ Γ' H) : PSs X rest (tS X.K Γ Φ) := pss_imp h fun D σ H ⟨H0, ok, q⟩ => ⟨H0, w _ _ _ ok, q⟩
theorem ok_forget {H0 H : Hp} {Z : Hd} {σ : St} {i : Nat} (k : Ok K H0 Z σ Γ H) (hl : i < Γ.length) : Ok K H0 Z σ (Γ.set i .u) H := by
  have q := k.setN (i := i) (s := .u) (v := σ[i]'(by rw [k.len]; exact hl)) (by rw [k.len]; exact hl) (fun c => by simp) trivial
  rw [List.set_getElem_self] at q
  exact q
/-- an owned list is read on -/
theorem ok_freeze {H0 H : Hp} {Z : Hd} {σ : St} {i : Nat} (k : Ok K H0 Z σ Γ H) (h : Γ[i]? = some (.o (cl K ds))) : Ok K H0 Z σ (Γ.set i (.p (plt K ds))) H := by
  have hl : i < Γ.length := (List.getElem?_eq_some_iff.mp h).1
  obtain ⟨v, e1, a, ob, e2, e3, ws, e4, e5⟩ := k.sl i _ h
  subst e2 e4
  have hno : ∀ b, Own Z σ (Γ.set i (.p (plt K ds))) b → Own Z σ Γ b ∧ b ≠ a := by
    rintro b (z | ⟨j, c, h1, h2⟩)
    · exact ⟨.inl z, fun e => k.zd i _ a h e1 (by rw [← e]; exact z)⟩
    · by_cases hj : i = j
      · subst hj
        rw [List.getElem?_set_self hl] at h1
        cases h1
      · rw [List.getElem?_set_ne hj] at h1
        exact ⟨.inr ⟨j, c, h1, h2⟩, fun e => hj (k.dist i j _ c a h h1 e1 (by rw [h2, e]))⟩
  have kp : Keep (minus Z σ Γ H) (minus Z σ (Γ.set i (.p (plt K ds))) H) := minus_less fun b q => (hno b q).1
  refine ⟨⟨by rw [List.length_set]; exact k.len, fun j t e => ?_, fun j l c c' b h1 h2 h3 h4 => ?_, k.zo, fun j c b h1 h2 => ?_, fun P hP => kp.tabG (k.tb P hP)⟩, k.base.trans kp⟩
  · by_cases hj : i = j
    · subst hj
      rw [List.getElem?_set_self hl] at e
      cases e
      refine ⟨_, e1, _, rfl, a, ws, rfl, minus_of e3 fun q => (hno a q).2 rfl, e5.k kp.tk⟩
    · rw [List.getElem?_set_ne hj] at e
      obtain ⟨w, f1, q⟩ := k.sl j t e
      refine ⟨w, f1, ?_⟩
      cases t with
      | u => trivial
      | d d =>
        obtain ⟨x, f2, q⟩ := q
        exact ⟨x, f2, q.k kp.tk⟩
      | p p =>
        obtain ⟨x, f2, q⟩ := q
        exact ⟨x, f2, p.mono _ _ _ kp q⟩
      | o c =>
        obtain ⟨x, ob, f2, f3, q⟩ := q
        exact ⟨x, ob, f2, f3, c.mono _ _ _ _ kp.tk q⟩
  · have back : ∀ {j : Nat} {d : Ct}, (Γ.set i (.p (plt K ds)))[j]? = some (.o d) → Γ[j]? = some (.o d) := fun {j d} e => by
      by_cases hj : i = j
      · subst hj
        rw [List.getElem?_set_self hl] at e
        cases e
      · rw [List.getElem?_set_ne hj] at e
        exact e
    exact k.dist j l c c' b (back h1) (back h2) h3 h4
  · by_cases hj : i = j
    · subst hj
      rw [List.getElem?_set_self hl] at h1
      cases h1
    · rw [List.getElem?_set_ne hj] at h1
      exact k.zd j c b h1 h2
theorem js_freeze (i : Nat) (h : Γ[i]? = some (.o (cl X.K ds))) (r : PSs X rest (tS X.K (Γ.set i (.p (plt X.K ds))) Φ)) : PSs X rest (tS X.K Γ Φ) := js_weak r fun _ _ _ k => ok_freeze k h
theorem js_forget (i : Nat) (h : i < Γ.length) (r : PSs X rest (tS X.K (Γ.set i .u) Φ)) : PSs X rest (tS X.K Γ Φ) := js_weak r fun _ _ _ k => ok_forget k h

/-! ### stores -/
section
variable {i : Nat} {x : Str}
theorem js_setR (hs : ∀ c, s ≠ .o c) (hu : s ≠ .u) (hN : X.N.Nodup) (hi : X.N[i]? = some x) (hx : Loc X.env.scope x) (he : PE X e (tR X.K Γ s)) (h : Ψ (.nx (Γ.set i s))) (hl : i < Γ.length) (hsw : swapsWith e (some (.Name x p')) pos.line X.env = pure false)
    (hf : X.fn x = true ∨ X.env.scope.names.lookup x = some .local) : PS X (.Assign [.Name x p'] e pos) (tS X.K Γ Ψ) :=
  ps_imp (ps_set hN hi hx he hsw hf) fun D σ H ⟨H0, ok, h1, h2, h3⟩ => ⟨noZ, ok.toOkS, fun v H' n r => h1 _ _ _ h ((ok.nx n).setN (by rw [ok.len]; exact hl) hs (by
    cases s with
    | u => exact absurd rfl hu
    | d d => exact ⟨v, rfl, r⟩
    | p p => exact ⟨v, rfl, r⟩
    | o c => exact absurd rfl (hs c)))⟩
/-- name = data -/
theorem js_set (i : Nat) (hN : X.N.Nodup) (he : PE X e (tR X.K Γ (.d d))) (h : Ψ (.nx (Γ.set i (.d d)))) (hi : X.N[i]? = some x := by rfl) (hx : Loc X.env.scope x := by first | exact Or.inl rfl | exact Or.inr rfl) (hl : i < Γ.length := by simp) (hsw : swapsWith e (some (.Name x p')) pos.line X.env = pure false := by rfl)
    (hf : X.fn x = true ∨ X.env.scope.names.lookup x = some .local := by first | exact .inl rfl | exact .inr rfl) : PS X (.Assign [.Name x p'] e pos) (tS X.K Γ Ψ) := js_setR (fun c => by simp) (by simp) hN hi hx he h hl hsw hf
theorem js_setp (i : Nat) {q : Ps} (hN : X.N.Nodup) (he : PE X e (tR X.K Γ (.p q))) (h : Ψ (.nx (Γ.set i (.p q)))) (hi : X.N[i]? = some x := by rfl) (hx : Loc X.env.scope x := by first | exact Or.inl rfl | exact Or.inr rfl) (hl : i < Γ.length := by simp) (hsw : swapsWith e (some (.Name x p')) pos.line X.env = pure false := by rfl)
    (hf : X.fn x = true ∨ X.env.scope.names.lookup x = some .local := by first | exact .inl rfl | exact .inr rfl) : PS X (.Assign [.Name x p'] e pos) (tS X.K Γ Ψ) := js_setR (fun c => by simp) (by simp) hN hi hx he h hl hsw hf
theorem tS_setF {P : Ct → Prop} {D : Ends} {σ : St} {H : Hp} (hl : i < Γ.length) (h : ∀ c, P c → Ψ (.nx (Γ.set i (.o c)))) (q : tS K Γ Ψ D σ H) : tAsg (tF K Γ P) (gName i) D σ H := by
  obtain ⟨H0, ok, h1, h2, h3⟩ := q
  exact ⟨noZ, ok.toOkS, fun c a ob H' hc n fr ha on => h1 _ _ _ (h c hc) (ok.setO n (by rw [ok.len]; exact hl) fr ha on)⟩
/-- name = a new cell, owned from here on -/
theorem js_setF (i : Nat) {P : Ct → Prop} (hN : X.N.Nodup) (he : PE X e (tF X.K Γ P)) (h : ∀ c, P c → Ψ (.nx (Γ.set i (.o c)))) (hi : X.N[i]? = some x := by rfl) (hx : Loc X.env.scope x := by first | exact Or.inl rfl | exact Or.inr rfl) (hl : i < Γ.length := by simp) (hsw : swapsWith e (some (.Name x p')) pos.line X.env = pure false := by rfl)
    (hf : X.fn x = true ∨ X.env.scope.names.lookup x = some .local := by first | exact .inl rfl | exact .inr rfl) : PS X (.Assign [.Name x p'] e pos) (tS X.K Γ Ψ) :=
  ps_imp (ps_set hN hi hx he hsw hf) fun D σ H q => tS_setF hl h q
/-- name = some data -/
theorem js_setN (i : Nat) {P : D → Prop} (hN : X.N.Nodup) (he : PE X e (tN X.K Γ P)) (h : ∀ d, P d → Ψ (.nx (Γ.set i (.d d)))) (hi : X.N[i]? = some x := by rfl) (hx : Loc X.env.scope x := by first | exact Or.inl rfl | exact Or.inr rfl) (hl : i < Γ.length := by simp) (hsw : swapsWith e (some (.Name x p')) pos.line X.env = pure false := by rfl)
    (hf : X.fn x = true ∨ X.env.scope.names.lookup x = some .local := by first | exact .inl rfl | exact .inr rfl) : PS X (.Assign [.Name x p'] e pos) (tS X.K Γ Ψ) :=
  ps_imp (ps_set hN hi hx he hsw hf) fun D σ H ⟨H0, ok, h1, h2, h3⟩ => ⟨noZ, ok.toOkS, fun d v H' hp n r => h1 _ _ _ (h d hp) ((ok.nx n).setN (by rw [ok.len]; exact hl) (fun c => by simp) ⟨v, rfl, r⟩)⟩
/-- a target of names = data -/
theorem js_asg {g : TG} {js : List Nat} {S : D → En → Option En} (he : PE X e (tR X.K Γ (.d d))) (hg : PG X tg g) (hT : Tg X.K g js S) (hS : S d Γ = some Γ') (h : Ψ (.nx Γ')) (hs : swapsWithSole [tg] e pos.line X.env = pure false := by rfl) (hw : swappedStores [tg] e X.env = pure none := by rfl)
    (h1 : (assignEach [tg] X.env).map (·.2) = [assign tg X.env] := by rfl) : PS X (.Assign [tg] e pos) (tS X.K Γ Ψ) :=
  ps_imp (ps_asg he hg hs hw h1) fun D σ H ⟨H0, ok, h1, h2, h3⟩ => ⟨noZ, ok.toOkS, fun v H' n r => hT.run noZ σ Γ Γ' H' H0 d v _ (ok.nx n) r hS fun σ' _ k => h1 _ _ _ h k⟩
/-- name += e, ints (any operator by its rule) -/
theorem js_augI (i : Nat) {op : Operator} {r : R2} {n m k : Int} (ho : OpR X (inplaceOp op) r) (h2 : Op2 X.K r (.d (.i n)) (.d (.i m)) (.i k)) (hN : X.N.Nodup) (hv : Γ[i]? = some (.d (.i n))) (he : PE X e (tR X.K Γ (.d (.i m)))) (h : Ψ (.nx (Γ.set i (.d (.i k))))) (hi : X.N[i]? = some x := by rfl) (hx : Loc X.env.scope x := by first | exact Or.inl rfl | exact Or.inr rfl)
    (hf : X.fn x = true ∨ X.env.scope.names.lookup x = some .local := by first | exact .inl rfl | exact .inr rfl) : PS X (.AugAssign (.Name x p') op e pos) (tS X.K Γ Ψ) :=
  ps_imp (ps_aug (ti := r) hN hi hx he ho hf) fun D σ H ⟨H0, ok, h1, _, _⟩ => by
    have hl : i < Γ.length := (List.getElem?_eq_some_iff.mp hv).1
    obtain ⟨v, e1, q⟩ := ok.toOkS.slot hv (fun c => by simp) (by simp)
    refine ⟨v, e1, noZ, ok.toOkS, fun w H' n1 r1 => ?_⟩
    refine h2 (minus noZ σ Γ H') H' v w _ minus_keep n1.ok.tk (RV.k q n1.kp) r1 fun z H2 kp dz => ?_
    have n2 := n1.trans (Nx.of_keep n1.ok kp)
    exact h1 _ _ _ h ((ok.nx n2).setN (by rw [ok.len]; exact hl) (fun c => by simp) ⟨z, rfl, dz.k n2.ok.tk⟩)
/-- xs.append(e), xs an owned list -/
theorem js_append (i : Nat) {apos cpos : Pos} (hv : Γ[i]? = some (.o (cl X.K ds))) (he : PE X e (tR X.K Γ (.d d))) (hz : ds.length < 100000) (h : Ψ (.nx (Γ.set i (.o (cl X.K (ds ++ [d])))))) (hN : X.N[i]? = some x := by rfl) (hx : Vis X.env.scope x := by first | exact Or.inl rfl | exact Or.inr (Or.inl rfl) | exact Or.inr (Or.inr rfl))
    (hw : PE X (.Call (.Attribute (.Name x p') "append" apos) [e] [] cpos) (tBM X.K "list" rAppend (tVar i) (tCons (tR X.K Γ (.d d)) tNil))) (hsw : swapsWith (.Call (.Attribute (.Name x p') "append" apos) [e] [] cpos) none pos.line X.env = pure false := by rfl) :
    PS X (.Expr (.Call (.Attribute (.Name x p') "append" apos) [e] [] cpos) pos) (tS X.K Γ Ψ) :=
  ps_imp (ps_expr hw hsw) fun D σ H ⟨H0, ok, h1, _, _⟩ => by
    obtain ⟨v, e1, a, ob, e2, e3, ws, e4, e5⟩ := ok.sl i _ hv
    subst e2 e4
    refine ⟨.ref a, e1, .inl ⟨rfl, _, SqL.of e3⟩, noZ, ok.toOkS, fun w H' n r => ?_⟩
    obtain ⟨v', f1, a', ob', f2, f3, ws', f4, f5⟩ := n.ok.sl i _ hv
    rw [e1] at f1
    cases f1
    cases f2
    subst f4
    refine ⟨a, ws', w, rfl, rfl, f3, Nat.lt_of_lt_of_le (show ws'.length < 100001 by rw [f5.len]; omega) (by decide), ?_⟩
    exact h1 _ _ _ h ((ok.nx n).write hv e1 ⟨_, rfl, f5.snoc r⟩)
/-- xs[j] = e, xs an owned list -/
theorem js_setItem (i : Nat) {j : Int} {m : Nat} {p3 : Pos} (hv : Γ[i]? = some (.o (cl X.K ds))) (he : PE X e (tR X.K Γ (.d d))) (hj : PE X a (tR X.K Γ (.d (.i j)))) (hm : ixN ds.length j = some m) (h : Ψ (.nx (Γ.set i (.o (cl X.K (ds.set m d)))))) (hN : X.N[i]? = some x := by rfl) (hx : Vis X.env.scope x := by first | exact Or.inl rfl | exact Or.inr (Or.inl rfl) | exact Or.inr (Or.inr rfl))
    (hw : PS X (.Assign [.Subscript (.Name x p') a p3] e pos) (tAsg (tR X.K Γ (.d d)) (gSub (tVar i) (tR X.K Γ (.d (.i j))) rSetL))) : PS X (.Assign [.Subscript (.Name x p') a p3] e pos) (tS X.K Γ Ψ) :=
  ps_imp hw fun D σ H ⟨H0, ok, h1, _, _⟩ => by
    obtain ⟨v, e1, a, ob, e2, e3, ws, e4, e5⟩ := ok.sl i _ hv
    subst e2 e4
    refine ⟨noZ, ok.toOkS, fun w H1 n r => ⟨.ref a, e1, noZ, n.ok, fun u H2 n2 r2 => ?_⟩⟩
    obtain ⟨v', f1, a', ob', f2, f3, ws', f4, f5⟩ := n2.ok.sl i _ hv
    rw [e1] at f1
    cases f1
    cases f2
    subst f4
    refine ⟨a, ws', j, m, rfl, r2, f3, by rw [f5.len]; exact hm, ?_⟩
    exact h1 _ _ _ h ((ok.nx (n.trans n2)).write hv e1 ⟨_, rfl, f5.set m (Dn.k r n2.kp.tk)⟩)
/-- xs += a new list, xs an owned list; in e xs is read -/
theorem js_iaddL (i : Nat) {es' : List D} (hN : X.N.Nodup) (hv : Γ[i]? = some (.o (cl X.K ds))) (he : PE X e (tR X.K (Γ.set i (.p (plt X.K ds))) (.p (plt X.K es')))) (hz : ds.length + es'.length ≤ 100000) (h : Ψ (.nx (Γ.set i (.o (cl X.K (ds ++ es')))))) (hi : X.N[i]? = some x := by rfl) (hx : Loc X.env.scope x := by first | exact Or.inl rfl | exact Or.inr rfl)
    (hf : X.fn x = true ∨ X.env.scope.names.lookup x = some .local := by first | exact .inl rfl | exact .inr rfl) : PS X (.AugAssign (.Name x p') .Add e pos) (tS X.K Γ Ψ) :=
  ps_imp (ps_aug (ti := rExt2) hN hi hx he iop_ext hf) fun D σ H ⟨H0, ok, h1, _, _⟩ => by
    have hl : i < Γ.length := (List.getElem?_eq_some_iff.mp hv).1
    obtain ⟨v, e1, a, ob, e2, e3, ws, e4, e5⟩ := ok.sl i _ hv
    subst e2 e4
    have ok2 := ok_freeze ok hv
    refine ⟨.ref a, e1, noZ, ok2.toOkS, fun w H1 n r => ?_⟩
    obtain ⟨v', f1, u, f2, a', ws', f3, f4, f5⟩ := n.ok.sl i (.p (plt X.K ds)) (by rw [List.getElem?_set_self hl])
    rw [e1] at f1
    cases f1
    cases f2
    cases f3
    obtain ⟨b, zs, g1, g2, g3⟩ := r
    subst g1
    have hws : ws' = ws := by
      have e6 := n.kp.obj a (.lst ws) (minus_of e3 (by
        rintro (z | ⟨j, c, z1, z2⟩)
        · exact z
        · by_cases hj : i = j
          · subst hj
            rw [List.getElem?_set_self hl] at z1
            cases z1
          · rw [List.getElem?_set_ne hj] at z1
            exact hj (ok.dist i j _ c a hv z1 e1 z2))) rfl
      rw [f4] at e6
      cases e6
      rfl
    subst hws
    refine ⟨a, b, ws', zs, rfl, rfl, (minus_some f4).1, (minus_some g2).1, by rw [f5.len, g3.len]; exact Nat.le_trans hz (by decide), ?_⟩
    -- back to the owned list
    have o1 : ∀ c, Own noZ σ Γ c ↔ (c = a ∨ Own noZ σ (Γ.set i (.p (plt X.K ds))) c) := by
      intro c
      constructor
      · rintro (z | ⟨j, cc, z1, z2⟩)
        · exact .inr (.inl z)
        · by_cases hj : i = j
          · subst hj
            rw [e1] at z2
            cases z2
            exact .inl rfl
          · exact .inr (.inr ⟨j, cc, by rw [List.getElem?_set_ne hj]; exact z1, z2⟩)
      · rintro (z | z | ⟨j, cc, z1, z2⟩)
        · rw [z]
          exact .inr ⟨i, _, hv, e1⟩
        · exact .inl z
        · by_cases hj : i = j
          · subst hj
            rw [List.getElem?_set_self hl] at z1
            cases z1
          · rw [List.getElem?_set_ne hj] at z1
            exact .inr ⟨j, cc, z1, z2⟩
    have na : ∀ {c o}, minus noZ σ Γ H c = some o → c ≠ a := fun {c o} z y => (minus_some z).2 ((o1 c).mpr (.inl y))
    have kp : Keep (minus noZ σ Γ H) (minus noZ σ Γ H1) := by
      refine ⟨fun c o z y => ?_, fun c ps z => ?_⟩
      · have z1 := n.kp.obj c o (minus_of (minus_some z).1 fun y => (minus_some z).2 ((o1 c).mpr (.inr y))) y
        obtain ⟨z2, z3⟩ := minus_some z1
        exact minus_of z2 fun y => ((o1 c).mp y).elim (na z) z3
      · obtain ⟨ps', z1, t1⟩ := n.kp.tab c ps (minus_of (minus_some z).1 fun y => (minus_some z).2 ((o1 c).mpr (.inr y)))
        obtain ⟨z2, z3⟩ := minus_some z1
        exact ⟨ps', minus_of z2 fun y => ((o1 c).mp y).elim (na z) z3, t1⟩
    have tk : TK (minus noZ σ (Γ.set i (.p (plt X.K ds))) H1) (minus noZ σ Γ H1) := fun c o z y => by
      obtain ⟨z2, z3⟩ := minus_some z
      refine minus_of z2 fun w => ((o1 c).mp w).elim (fun w => ?_) z3
      rw [w, (minus_some f4).1] at z2
      cases z2
      cases y
    have ok3 : Ok X.K H0 noZ σ Γ H1 := by
      refine ⟨⟨ok.len, fun j t z => ?_, ok.dist, fun _ z => z.elim, ok.zd, fun P hP => kp.tabG (ok.tb P hP)⟩, ok.base.trans kp⟩
      obtain ⟨w, z1, z2⟩ := ok.sl j t z
      refine ⟨w, z1, ?_⟩
      cases t with
      | u => trivial
      | d d =>
        obtain ⟨y, y1, y2⟩ := z2
        exact ⟨y, y1, y2.k kp.tk⟩
      | p p =>
        obtain ⟨y, y1, y2⟩ := z2
        exact ⟨y, y1, p.mono _ _ _ kp y2⟩
      | o c =>
        by_cases hj : i = j
        · subst hj
          rw [hv] at z
          cases z
          rw [e1] at z1
          cases z1
          exact ⟨a, _, rfl, (minus_some f4).1, ws', rfl, f5.k tk⟩
        · obtain ⟨w2, z3, y, ob2, y1, y2, y3⟩ := n.ok.sl j (.o c) (by rw [List.getElem?_set_ne hj]; exact z)
          rw [z1] at z3
          cases z3
          exact ⟨y, ob2, y1, y2, c.mono _ _ _ _ tk y3⟩
    have e6 : (σ.set i (some (V.ref a))) = σ := by
      apply List.ext_getElem?
      intro j
      by_cases hj : i = j
      · subst hj
        rw [List.getElem?_set_self (by rw [ok.len]; exact hl), e1]
      · rw [List.getElem?_set_ne hj]
    show D.nx (σ.set i (some (V.ref a))) _
    rw [e6]
    exact h1 _ _ _ h (ok3.write hv e1 ⟨_, rfl, (f5.k tk).append (g3.k tk)⟩)
end

/-! ### name = [..], one line -/
section
variable {elt iter tg1 iter1 : Expr} {ifs ifs1 : List Expr} {scope : Scope} {g g1 : TG} {js js1 : List Nat} {S S1 : D → En → Option En} {α β : Type} {x : Str}
theorem js_setLc (i : Nat) {xs : List α} {enc f : α → D} {pb : α → Bool} {Γe : α → En} (own : List (Str × Nat)) (hc : X.calm = true) (hN : X.N.Nodup) (hy : X.N[i]? = some x) (hyl : X.env.scope.names.lookup x = some .local) (hl : i < Γ.length) (hsw : swapsWith (.ListComp elt [⟨tg, iter, ifs, 0⟩] scope p) (some (.Name x p')) pos.line X.env = pure true)
    (hi : PI X tg iter (tI X.K Γ (xs.map enc))) (ok : BlkOk X.N X.env.scope scope own) (hT : Tg X.K g js S) (hj : ∀ i ∈ js, i ∈ own.map (·.2)) (hu : (own.all fun p => isU Γ[p.2]?) = true)
    (hS : ∀ x ∈ xs, S (enc x) Γ = some (Γe x)) (hz : xs.length ≤ 100000)
    (hg : ∀ (s : Shared) (H : Hp) (C : Addr) (cl : List (Str × Addr)) (fp : List Addr), PG (X.blk s H scope (compEnvC scope cl C X.env) fp) tg g)
    (ht : ∀ x ∈ xs, ∀ (s : Shared) (H : Hp) (C : Addr) (cl : List (Str × Addr)) (fp : List Addr), PTs (X.blk s H scope (compEnvC scope cl C X.env) fp) ifs (tT X.K (Γe x) (pb x)))
    (he : ∀ x ∈ xs, pb x = true → ∀ (s : Shared) (H : Hp) (C : Addr) (cl : List (Str × Addr)) (fp : List Addr), PE (X.blk s H scope (compEnvC scope cl C X.env) fp) elt (tR X.K (Γe x) (.d (f x)))) (h : Ψ (.nx (Γ.set i (.o (cl X.K ((xs.filter pb).map f)))))) (hs : ∀ x, foldedSetIterable iter X.env x = pure x := by intro _; rfl) :
    PS X (.Assign [.Name x p'] (.ListComp elt [⟨tg, iter, ifs, 0⟩] scope p) pos) (tS X.K Γ Ψ) :=
  ps_imp (ps_setLc hc hN hy hyl hsw hi ok hg (fun s H C cl fp => pts_any fun x hx => ht x hx s H C cl fp) (fun s H C cl fp => pe_any fun x hx hp => he x hx hp s H C cl fp) hs) fun D σ H q =>
    lc_sem hT hj (hu_of_own hu) hS hz (tS_setF (P := (· = cl X.K ((xs.filter pb).map f))) hl (fun c hc => by subst hc; exact h) q)
theorem js_setLc2 (i : Nat) {xs : List α} {ys : α → List β} {enc : α → D} {enc1 : α → β → D} {f : α → β → D} {pb : α → β → Bool} {Γe : α → En} {Γf : α → β → En} (own : List (Str × Nat)) (vs1 : List Nat) (hc : X.calm = true) (hN : X.N.Nodup) (hy : X.N[i]? = some x) (hyl : X.env.scope.names.lookup x = some .local) (hl : i < Γ.length)
    (hsw : swapsWith (.ListComp elt [⟨tg, iter, [], 0⟩, ⟨tg1, iter1, ifs1, 0⟩] scope p) (some (.Name x p')) pos.line X.env = pure true) (hi : PI X tg iter (tI X.K Γ (xs.map enc))) (ok : BlkOk X.N X.env.scope scope own) (hv : ∀ i ∈ vs1, i ∈ own.map (·.2))
    (hT : Tg X.K g js S) (hj : ∀ i ∈ js, i ∈ own.map (·.2)) (hu : (own.all fun p => isU Γ[p.2]?) = true) (hS : ∀ x ∈ xs, S (enc x) Γ = some (Γe x))
    (hT1 : Tg X.K g1 js1 S1) (hj1 : ∀ i ∈ js1, i ∈ vs1) (hu1 : ∀ x ∈ xs, (vs1.all fun i => isU (Γe x)[i]?) = true) (hS1 : ∀ x ∈ xs, ∀ y ∈ ys x, S1 (enc1 x y) (Γe x) = some (Γf x y)) (hz : (xs.flatMap fun x => ((ys x).filter (pb x)).map (f x)).length ≤ 100000)
    (hg : ∀ (s : Shared) (H : Hp) (C : Addr) (cl : List (Str × Addr)) (fp : List Addr), PG (X.blk s H scope (compEnvC scope cl C X.env) fp) tg g)
    (hi1 : ∀ x ∈ xs, ∀ (s : Shared) (H : Hp) (C : Addr) (cl : List (Str × Addr)) (fp : List Addr), PI (X.blk s H scope (compEnvC scope cl C X.env) fp) tg1 iter1 (tI X.K (Γe x) ((ys x).map (enc1 x))))
    (hg1 : ∀ (s : Shared) (H : Hp) (C : Addr) (cl : List (Str × Addr)) (fp : List Addr), PG (X.blk s H scope (compEnvC scope cl C X.env) fp) tg1 g1)
    (ht1 : ∀ x ∈ xs, ∀ y ∈ ys x, ∀ (s : Shared) (H : Hp) (C : Addr) (cl : List (Str × Addr)) (fp : List Addr), PTs (X.blk s H scope (compEnvC scope cl C X.env) fp) ifs1 (tT X.K (Γf x y) (pb x y)))
    (he : ∀ x ∈ xs, ∀ y ∈ ys x, pb x y = true → ∀ (s : Shared) (H : Hp) (C : Addr) (cl : List (Str × Addr)) (fp : List Addr), PE (X.blk s H scope (compEnvC scope cl C X.env) fp) elt (tR X.K (Γf x y) (.d (f x y))))
    (h : Ψ (.nx (Γ.set i (.o (cl X.K (xs.flatMap fun x => ((ys x).filter (pb x)).map (f x))))))) (hs : ∀ x, foldedSetIterable iter X.env x = pure x := by intro _; rfl) (hs1 : ∀ env x, foldedSetIterable iter1 env x = pure x := by intro _ _; rfl) :
    PS X (.Assign [.Name x p'] (.ListComp elt [⟨tg, iter, [], 0⟩, ⟨tg1, iter1, ifs1, 0⟩] scope p) pos) (tS X.K Γ Ψ) :=
  ps_imp (ps_setLc2 hc hN hy hyl hsw hi ok hv hg (fun s H C cl fp => pts_any fun x hx => jts_nil) (fun s H C cl fp => pi_any fun x hx => hi1 x hx s H C cl fp) hg1 (fun s H C cl fp => pts_any fun x hx => pts_any fun y hy => ht1 x hx y hy s H C cl fp) (fun s H C cl fp => pe_any fun x hx _ => pe_any fun y hy hp => he x hx y hy hp s H C cl fp) hs hs1) fun D σ H q =>
    lc2_sem hT hj (hu_of_own hu) hS hT1 hj1 (fun x hx => hu_of_vs (hu1 x hx)) hS1 hz (tS_setF (P := (· = cl X.K (xs.flatMap fun x => ((ys x).filter (pb x)).map (f x)))) hl (fun c hc => by subst hc; exact h) q)
end

/-! ### returns, ifs, expressions -/
theorem js_ret (he : PE X e (tR X.K Γ (.d d))) (h : Ψ (.rt Γ (.d d))) : PS X (.Return (some e) pos) (tS X.K Γ Ψ) :=
  ps_imp (ps_ret he) fun D σ H ⟨H0, ok, _, h2, _⟩ => ⟨noZ, ok.toOkS, fun v H' n r => h2 _ _ _ _ v h (ok.nx n) (Dn.k r minus_keep.tk)⟩
theorem js_retN {P : D → Prop} (he : PE X e (tN X.K Γ P)) (h : ∀ d, P d → Ψ (.rt Γ (.d d))) : PS X (.Return (some e) pos) (tS X.K Γ Ψ) :=
  ps_imp (ps_ret he) fun D σ H ⟨H0, ok, _, h2, _⟩ => ⟨noZ, ok.toOkS, fun d v H' hp n r => h2 _ _ _ _ v (h d hp) (ok.nx n) (Dn.k r minus_keep.tk)⟩
theorem js_retF {P : Ct → Prop} (he : PE X e (tF X.K Γ P)) (h : ∀ c, P c → Ψ (.rt Γ (.o c))) : PS X (.Return (some e) pos) (tS X.K Γ Ψ) :=
  ps_imp (ps_ret he) fun D σ H ⟨H0, ok, _, h2, _⟩ => ⟨noZ, ok.toOkS, fun c a ob H' hc n fr ha on => h2 _ _ _ _ _ (h c hc) (ok.nx n) ⟨a, ob, rfl, ok.base.free (by
    cases q : minus noZ σ Γ H a with
    | none => rfl
    | some o =>
      rw [(minus_some q).1] at fr
      cases fr), ha, on⟩⟩
/-- return x, an owned cell -/
theorem js_retO (i : Nat) {x : Str} {c : Ct} (hv : Γ[i]? = some (.o c)) (h : Ψ (.rt Γ (.o c))) (hN : X.N[i]? = some x := by rfl) (hx : Vis X.env.scope x := by first | exact Or.inl rfl | exact Or.inr (Or.inl rfl) | exact Or.inr (Or.inr rfl)) (hd : (x == ("__debug__" : Str)) = false := by decide) (hcd : (x == ("__classdict__" : Str)) = false := by decide) :
    PS X (.Return (some (.Name x p')) pos) (tS X.K Γ Ψ) :=
  ps_imp (ps_ret (pe_var hN hx hd hcd)) fun D σ H ⟨H0, ok, _, h2, _⟩ => by
    obtain ⟨v, e1, a, ob, e2, e3, on⟩ := ok.sl i _ hv
    subst e2
    exact ⟨.ref a, e1, h2 _ _ _ _ _ h ok ⟨a, ob, rfl, ok.out (.inr ⟨i, c, hv, e1⟩), e3, c.mono _ _ _ _ minus_keep.tk on⟩⟩
theorem js_expr (he : PE X e (tR X.K Γ s)) (h : Ψ (.nx Γ)) (hs : swapsWith e none pos.line X.env = pure false := by rfl) : PS X (.Expr e pos) (tS X.K Γ Ψ) :=
  ps_imp (ps_expr he hs) fun D σ H ⟨H0, ok, h1, _, _⟩ => ⟨noZ, ok.toOkS, fun v H' n r => h1 _ _ _ h (ok.nx n)⟩
theorem js_if {x : Bool} (hc : PT X c (tT X.K Γ x)) (ha : x = true → PSs X body (tS X.K Γ Ψ)) (hb : x = false → PSs X orelse (tS X.K Γ Ψ)) : PS X (.If c body orelse pos) (tS X.K Γ Ψ) :=
  ps_imp (ps_if hc (pss_cond ha) (pss_cond hb)) fun D σ H ⟨H0, ok, q⟩ => ⟨noZ, ok.toOkS, fun H' n => by
    cases x with
    | true =>
      rw [if_pos rfl]
      exact ⟨rfl, H0, ok.nx n, q⟩
    | false =>
      rw [if_neg Bool.false_ne_true]
      exact ⟨rfl, H0, ok.nx n, q⟩⟩
/-- a test that fails: the branch is never taken -/
theorem js_ifN (hc : PT X c (tT X.K Γ false)) (h : Ψ (.nx Γ)) : PS X (.If c body [] pos) (tS X.K Γ Ψ) := js_if hc (fun z => nomatch z) fun _ => js_nil h
theorem js_cont (h : Ψ (.ct Γ)) : PS X (.Continue pos) (tS X.K Γ Ψ) := ps_imp ps_continue fun D σ H ⟨H0, ok, _, _, h3⟩ => h3 _ _ _ h ok

/-! ### loops -/
/-- I: what holds ahead of turn i -/
def turnW (Inx : En → Prop) (Ψ : Out → Prop) : Out → Prop
  | .nx Γ => Inx Γ
  | .ct Γ => Inx Γ
  | .rt Γ r => Ψ (.rt Γ r)
theorem js_for {g : TG} {js : List Nat} {S : D → En → Option En} (I : Nat → En → Prop) (hp : PassesOwn (model X.prog X.w) X.A X.env X.xe) (hc : X.calm = true) (hi : PI X tg e (tI X.K Γ ds)) (hg : PG X tg g) (hT : Tg X.K g js S) (h0 : I 0 Γ)
    (hs : ∀ i d Γ', ds[i]? = some d → I i Γ' → ∃ Γ'', S d Γ' = some Γ'' ∧ PSs X body (tS X.K Γ'' (turnW (I (i + 1)) Ψ))) (hd : ∀ Γ', I ds.length Γ' → Ψ (.nx Γ')) (hf : ∀ x, foldedSetIterable e X.env x = pure x := by intro _; rfl) : PS X (.For tg e body [] pos) (tS X.K Γ Ψ) := by
  refine ps_imp (ps_for hp hc hi hg (pss_ex (α := En × (Out → Prop)) (phi := fun q => PSs X body (tS X.K q.1 q.2)) (t := fun q => tS X.K q.1 q.2) fun _ h => h) hf) fun D σ H ⟨H0, ok, h1, h2, h3⟩ => ?_
  refine ⟨noZ, ok.toOkS, fun J H1 G Y n w hG hY => ?_⟩
  have ok1 := ok.nx n
  -- what must stay through the loop: all that is not owned at its start
  refine for_it w (g := g) (tb := fun D σ H => ∃ q : En × (Out → Prop), PSs X body (tS X.K q.1 q.2) ∧ tS X.K q.1 q.2 D σ H) (fun i σ' H' => ∃ Γ', I i Γ' ∧ Ok X.K (minus noZ σ Γ H1) noZ σ' Γ' H') ⟨Γ, h0, ⟨ok1.toOkS, Keep.refl _⟩⟩ (fun i σ' H' _ ⟨Γ', _, k⟩ => hG H' (k.base.trans minus_keep)) (fun i x σ' H' H2 hi' ⟨Γ', hI, k⟩ y => ?_) (fun σ' H' ⟨Γ', hI, k⟩ => h1 Γ' σ' H' (hd Γ' hI) ⟨k.toOkS, ok1.base.trans k.base⟩)
  obtain ⟨ext, d, hds, hdn⟩ := hY i H' x H2 hi' (k.base.trans minus_keep) y
  obtain ⟨Γ'', hS, hb⟩ := hs i d Γ' hds hI
  have k2 := k.nx (ext_nx k.toOkS ext)
  refine hT.run noZ σ' Γ' Γ'' H2 _ d x _ k2 (hdn.k k2.tk) hS fun σ2 _ k3 => ⟨(Γ'', turnW (I (i + 1)) Ψ), hb, minus noZ σ Γ H1, k3, fun Γ3 σ3 H3 q k4 => ⟨Γ3, q, k4⟩, fun Γ3 σ3 H3 r v q k4 rv => h2 Γ3 σ3 H3 r v q ⟨k4.toOkS, ok1.base.trans k4.base⟩ ?_, fun Γ3 σ3 H3 q k4 => ⟨Γ3, q, k4⟩⟩
  cases r with
  | u => trivial
  | d d => exact rv
  | p p => exact rv
  | o c =>
    obtain ⟨a, ob, e1, e2, e3, e4⟩ := rv
    exact ⟨a, ob, e1, ok1.base.free e2, e3, e4⟩
/-- I: the word, by a measure -/
theorem js_while {c : Expr} (I : Nat → En → Prop) (hp : PassesOwn (model X.prog X.w) X.A X.env X.xe) (m0 : Nat) (h0 : I m0 Γ) (hs : ∀ m Γ', I m Γ' → ∃ x, PT X c (tT X.K Γ' x) ∧ (x = true → PSs X body (tS X.K Γ' (turnW (fun Γ'' => ∃ m', m' < m ∧ I m' Γ'') Ψ))) ∧ (x = false → Ψ (.nx Γ'))) :
    PS X (.While c body [] pos) (tS X.K Γ Ψ) := by
  have hc : PT X c (fun σ H Q => ∃ (m : Nat) (Γ' : En) (x : Bool), PT X c (tT X.K Γ' x) ∧ tT X.K Γ' x σ H Q) := ⟨fun pins s σ H Q I ⟨m, Γ', x, h, q⟩ => h.run pins s σ H Q I q⟩
  refine ps_imp (ps_while hp hc (pss_ex (α := En × (Out → Prop)) (phi := fun q => PSs X body (tS X.K q.1 q.2)) (t := fun q => tS X.K q.1 q.2) fun _ h => h)) fun D σ H ⟨H0, ok, h1, h2, h3⟩ => ?_
  refine ⟨fun m σ' H' => ∃ Γ', I m Γ' ∧ Ok X.K H0 noZ σ' Γ' H', ⟨m0, Γ, h0, ok⟩, ?_⟩
  rintro m σ' H' ⟨Γ', hI, k⟩
  obtain ⟨x, hx, ht, hf⟩ := hs m Γ' hI
  refine ⟨m, Γ', x, hx, noZ, k.toOkS, fun H2 n => ?_⟩
  cases x with
  | true =>
    rw [if_pos rfl]
    refine ⟨fun σ3 H3 => ∃ m', m' < m ∧ ∃ Γ'', I m' Γ'' ∧ Ok X.K H0 noZ σ3 Γ'' H3, fun σ3 H3 z => z, (Γ', _), ht rfl, H0, k.nx n, fun Γ3 σ3 H3 ⟨m', hm, q⟩ k4 => ⟨m', hm, Γ3, q, k4⟩, h2, fun Γ3 σ3 H3 ⟨m', hm, q⟩ k4 => ⟨m', hm, Γ3, q, k4⟩⟩
  | false =>
    rw [if_neg Bool.false_ne_true]
    exact h1 _ _ _ (hf rfl) (k.nx n)
end

/-! ### defs -/
section
variable {P : Program} {w : World} {K : PySem.W.Frag} {mg : Str → Option Value} {base : Heap}
theorem ok_start {N : List Str} {rs : List Sl} {vs : List V} {H : Hp} (h : RVs K H rs vs) (hN : rs.length ≤ N.length) (ho : ∀ c, Sl.o c ∉ rs) (ht : ∀ P ∈ tabs K, GxR.TabG H P) : Ok K H noZ (L2.start N vs) (rs ++ List.replicate (N.length - rs.length) .u) H := by
  have hl : vs.length = rs.length := RVs.len h
  have noO : ∀ {i : Nat} {c : Ct}, (rs ++ List.replicate (N.length - rs.length) Sl.u)[i]? = some (.o c) → False := fun {i c} e => by
    have hm := List.mem_of_getElem? e
    rcases List.mem_append.mp hm with z | z
    · exact ho c z
    · have := List.eq_of_mem_replicate z
      cases this
  have hm : minus noZ (L2.start N vs) (rs ++ List.replicate (N.length - rs.length) Sl.u) H = H := by
    funext b
    unfold minus
    rw [if_neg]
    rintro (z | ⟨i, c, h1, _⟩)
    · exact z
    · exact noO h1
  have at_ : ∀ (rs : List Sl) (vs : List V) (i : Nat) (s : Sl), RVs K H rs vs → rs[i]? = some s → ∃ v, vs[i]? = some v ∧ RV K H s v := by
    intro rs
    induction rs with
    | nil => intro vs i s _ e; simp at e
    | cons r rs ih =>
      intro vs i s ⟨v, us, e1, h1, h2⟩ e
      subst e1
      cases i with
      | zero =>
        cases e
        exact ⟨v, rfl, h1⟩
      | succ i => exact ih us i s h2 e
  refine ⟨⟨?_, fun i s e => ?_, fun i j c c' b e1 => (noO e1).elim, fun _ z => z.elim, fun i c b e1 => (noO e1).elim, fun P hP => by rw [hm]; exact ht P hP⟩, by rw [hm]; exact Keep.refl _⟩
  · unfold L2.start
    rw [List.length_append, List.length_map, List.length_replicate, List.length_append, List.length_replicate, hl]
  · rw [hm]
    unfold L2.start
    by_cases hi : i < rs.length
    · rw [List.getElem?_append_left hi] at e
      obtain ⟨v, e1, r⟩ := at_ rs vs i s h e
      refine ⟨some v, ?_, ?_⟩
      · rw [List.getElem?_append_left (by rw [List.length_map, hl]; exact hi), List.getElem?_map, e1]
        rfl
      · cases s with
        | u => trivial
        | d d => exact ⟨v, rfl, r⟩
        | p p => exact ⟨v, rfl, r⟩
        | o c => exact r.elim
    · have hi2 : rs.length ≤ i := by omega
      rw [List.getElem?_append_right hi2] at e
      have hs := List.eq_of_mem_replicate (List.mem_of_getElem? e)
      subst hs
      have hlt : i - rs.length < N.length - rs.length := by
        have := (List.getElem?_eq_some_iff.mp e).1
        rwa [List.length_replicate] at this
      refine ⟨none, ?_, trivial⟩
      rw [List.getElem?_append_right (by rw [List.length_map, hl]; exact hi2), List.length_map, hl, List.getElem?_replicate, if_pos hlt]
/-- THE RULE for a def over data: from each case of its promise, its body -/
theorem fn_ok {x qual : Str} {st : Stmt} {f : Addr} {fd : FuncData} {N ps : List Str} {k : Nat} {m : Pm} (F : Fun K x qual st f fd) (S : FnScope N ps (defScope st)) (hlen : ∀ i, (m.A i).length = ps.length) (hno : ∀ i c, Sl.o c ∉ m.A i) (hps : ps.length ≤ N.length)
    (hbody : ∀ (cdv : Value) (A : Around) (outer : List Env) (s : Shared) (H : Hp) (E : XK) (i : m.ix), Room k (A.deeper (PyProof.Rows.envOfC qual (defScope st) s.heap.objs.size f cdv)) → m.G i →
      PSs (cxOf CX0 P w K mg base N qual (defScope st) f cdv A outer s H E).nox (defBody st) (tS K (m.A i ++ List.replicate (N.length - (m.A i).length) .u) (fun o => match o with
        | .rt _ r => m.R i r
        | .nx _ => m.R i (.d .non)
        | .ct _ => False))) : FnOk P w K mg base CX0 (k + 1) f fd ps (spP K m) := by
  refine F.ok S (fun vs H Q E ⟨i, hi, _, h, _⟩ => by rw [RVs.len h]; exact hlen i) (fun cdv A outer s H vs Q E hr ⟨i, hi, ht, h, q⟩ => ?_)
  refine ⟨_, hbody cdv A outer s H E i hr hi, H, ok_start h (by rw [hlen i]; exact hps) (hno i) ht, fun Γ' σ' H' hn k => ?_, fun Γ' σ' H' r' v hr' k rv => ?_, fun _ _ _ z => z.elim⟩
  · exact q _ _ H' hn (k.base.trans minus_keep) rfl
  · exact q _ _ H' hr' (k.base.trans minus_keep) rv
end
end DL
end

section
set_option Elab.async false
set_option linter.all false
set_option maxRecDepth 100000
set_option maxHeartbeats 2000000
/-! D5: enumerate of a tuple. -/
namespace L2
open PySem PySem.Spec PyProof.Rows
theorem meets_enumerate_newT (l : Addr) (items : Array Value) (n : Nat) (dct : Option Addr) (sl : Array (Option Value)) :
    Meets (Builtin.«enumerate.__new__» ⟨[.type "enumerate", .ref l], []⟩) (fun _ R s => s.heap.get? l = some { cls := .type "tuple", dict := dct, data := .seq items n, slots := sl } ∧
      R (.ok (.ret (.ref (s.heap.push { cls := .type "tuple_iterator", data := .fields #[.ref l, .int 0 0] }).objs.size)))
        { s with heap := (s.heap.push { cls := .type "tuple_iterator", data := .fields #[.ref l, .int 0 0] }).push { cls := .type "enumerate", data := .fields #[.none, .bool false, .ref s.heap.objs.size, rawInt 0, .none, .none] } }) :=
  .of_wp fun prog w A R s h => by
    obtain ⟨hp, g, d, tk, os⟩ := s; obtain ⟨hl, h⟩ := h
    have hsub := sub_enumerate
    have hL : Heap.IsTuple (Shared.heap ⟨hp, g, d, tk, os⟩) l items := ⟨_, hl, rfl, n, rfl⟩
    wp_walk using AutoSeq1.wpAny_loadPart' hl
    refine wpAny_stack_any fun st => wpAny_pure ?_
    split
    · rename_i c _ _ _ _ _
      cases (c == Value.type "enumerate")
      · wp_walk using AutoSeq1.wpAny_loadPart' hl, wpAny_pyIter_tuple hL
        exact ⟨_, rfl, h⟩
      · wp_walk using AutoSeq1.wpAny_loadPart' hl, wpAny_pyIter_tuple hL
        exact ⟨_, rfl, h⟩
    · wp_walk using AutoSeq1.wpAny_loadPart' hl, wpAny_pyIter_tuple hL
      exact ⟨_, rfl, h⟩
section
variable {prog : Program} {w : World} {A : Around} {E : Value → Shared → Prop} {s : Shared}
theorem call_enumerate_tuple {l : Addr} {items : Array Value} {Q : Value → Shared → Prop} (hL : s.heap.IsTuple l items)
    (h : ∀ h', IsEnum h' (s.heap.objs.size + 1) s.heap.objs.size 0 .none → h'.IsTupleIter s.heap.objs.size l 0 → h'.objs.size = s.heap.objs.size + 2 →
      (∀ b o, s.heap.get? b = some o → h'.get? b = some o) → Q (.ref (s.heap.objs.size + 1)) { s with heap := h' }) :
    wpAny (model prog w) A (call (.type "enumerate") [.ref l]) Q E s := by
  obtain ⟨⟨c, dct, dt, sl⟩, hl, hc, n, hd⟩ := hL
  replace hc : c = .type "tuple" := hc
  replace hd : dt = .seq items n := hd
  subst hc hd
  refine callType_new F.called_enumerate (by decide) (F.typeCall_enumerate_1 _) (F.newCall_enumerate_1 _) (fun obj => F.args_object_init_2 obj _) F.entry_enumerate_new
    (meets_enumerate_newT l items n dct sl) ⟨hl, ?_⟩
  have hz : (s.heap.push { cls := .type "tuple_iterator", data := .fields #[.ref l, .int 0 0] }).objs.size = s.heap.objs.size + 1 := Heap.size_push ..
  show _ ∧ _
  rw [hz]
  have he : IsEnum ((s.heap.push { cls := .type "tuple_iterator", data := .fields #[.ref l, .int 0 0] }).push
      { cls := .type "enumerate", data := .fields #[.none, .bool false, .ref s.heap.objs.size, rawInt 0, .none, .none] }) (s.heap.objs.size + 1) s.heap.objs.size 0 .none := by
    have := Heap.get?_push_size (s.heap.push { cls := .type "tuple_iterator", data := .fields #[.ref l, .int 0 0] })
      (o := { cls := .type "enumerate", data := .fields #[.none, .bool false, .ref s.heap.objs.size, rawInt 0, .none, .none] }) rfl
    rw [hz] at this; exact this
  refine ⟨⟨_, he, rfl⟩, h _ he ⟨_, Heap.get?_push_of_some _ (Heap.get?_push_size _ rfl), rfl, rfl⟩ (by rw [Heap.size_push, hz]) fun b o x => Heap.get?_push_of_some _ (Heap.get?_push_of_some _ x)⟩
end
/-- the tuple at a, each item in a new pair -/
def IteT (K : PySem.W.Frag) (a : Addr) : It :=
  ⟨fun i H => ∃ (xs : List V) (x : V), SqT K H a xs ∧ xs[i]? = some x, fun i H v H' => ∃ T x, v = .ref T ∧ H T = none ∧ H' = upd H T (.tup [.int (i : Nat), x]) ∧ ∀ xs, SqT K H a xs → xs[i]? = some x, fun i H => ∃ xs : List V, SqT K H a xs ∧ xs.length ≤ i⟩
theorem turn_enumT {P : Program} {w : World} {K : PySem.W.Frag} {elts : List Expr} {kk : Nat} {tpos : Pos} (a e it : Addr) (hea : e ≠ a) (hia : a ≠ it) :
    Turn P w K (.Tuple elts kk tpos) (IteT K a) [e, it] e (fun i h => (∃ old, IsEnum h e it ((i : Nat) : Int) old) ∧ h.IsTupleIter it a i ∧ e ≠ it) where
  mem := by simp
  obj := fun i h st b hb => by
    obtain ⟨⟨old, he⟩, ⟨o, ho, hc, hd⟩, _⟩ := st
    have e' : b = e ∨ b = it := by simpa using hb
    rcases e' with z | z
    · rw [z]; exact ⟨_, he, fun v q => nomatch q⟩
    · rw [z]; exact ⟨o, ho, fun v q => by rw [hd] at q; cases q⟩
  keep := fun i h h' st k => let ⟨⟨old, he⟩, hi, hne⟩ := st; ⟨⟨old, k e (by simp) _ he⟩, hi.at fun o q => k it (by simp) o q, hne⟩
  item := by
    intro X hP hw hK hc i pins s σ H E I hf st hg
    subst hP hw hK
    obtain ⟨⟨old, he⟩, hit, hne⟩ := st
    obtain ⟨xs, x, hq, hx⟩ := hg
    obtain ⟨its, rv, p, hz⟩ := I.tuple hq
    obtain ⟨u, hu, ru⟩ := rv.get hx
    have hel : e < s.heap.objs.size := Heap.lt_size he
    have hil : it < s.heap.objs.size := by obtain ⟨_, q, _⟩ := hit; exact Heap.lt_size q
    have hil2 : i < its.toArray.size := by
      have := (List.getElem?_eq_some_iff.mp hu).1
      simpa using this
    refine wpAny_pyNext_enum_itemD (Draws.tuple (A := X.A.in1) (I.ok.hd hc) it a hia its.toArray) he ⟨hit, show s.heap.IsTuple a its.toArray from p⟩ hil2 hne (by simp only [List.mem_cons, List.not_mem_nil, or_false, not_or]; exact ⟨hne, hea⟩) fun y h' tk hy ho hst hT hsz hk => ?_
    have ey : y = u := by
      have hy' : its[i]? = some y := by simpa using hy
      rw [hu] at hy'
      exact (Option.some.inj hy').symm
    subst ey
    refine ⟨_, rfl, wpAny_letOwnedTupleGo_enum (s := { s with heap := h', toks := tk + 1 }) ho fun h'' he' sb => ?_⟩
    have hT2 : h''.get? s.heap.objs.size = some { cls := .type "tuple", data := .seq #[.int i tk, y] } := (sb.2 _ (Nat.ne_of_gt hel)).trans hT
    have new : ObjOk X.prog X.w (upd H s.heap.objs.size (.tup [.int (i : Nat), x])) h'' s.heap.objs.size (.tup [.int (i : Nat), x]) :=
      ⟨by show 2 ≤ sizeLine; decide, [.int i tk, y], .cons ⟨_, rfl⟩ (.cons ru .nil), ⟨_, hT2, rfl, _, rfl⟩⟩
    have I1 : Inv X pins σ (upd H s.heap.objs.size (.tup [.int (i : Nat), x])) { s with heap := h'', toks := tk + 1 } :=
      I.turnedNew (ch := [e, it]) (fun b ob hb q => (sb.2 b (fun z => hb (by simp [z]))).trans (hk b ob (fun z => hb (by simp [z])) (fun z => hb (by simp [z])) q)) hf (Nat.le_refl _) new
    refine ⟨.ref s.heap.objs.size, _, I1, rfl, ⟨_, x, rfl, I.hok.fresh (Nat.le_refl _), rfl, fun ys hy => by rw [I.tuple_inj hy hq]; exact hx⟩, ⟨⟨y, ?_⟩, hst.1.at fun o q => (sb.2 it (Ne.symm hne)).trans q, hne⟩, fun b hb => ?_⟩
    · have e1 : ((i + 1 : Nat) : Int) = (i : Int) + 1 := by omega
      rw [e1]; exact he'
    · have hb' : b < s.heap.objs.size := by
        have e' : b = e ∨ b = it := by simpa using hb
        rcases e' with z | z
        · rw [z]; exact hel
        · rw [z]; exact hil
      rw [upd_ne (Nat.ne_of_lt hb')]
      exact (hf b hb).1
  done := by
    intro X hP hw hK hc i pins s σ H E I hf st hg
    subst hP hw hK
    obtain ⟨⟨old, he⟩, hit, hne⟩ := st
    obtain ⟨xs, hq, hx⟩ := hg
    obtain ⟨its, rv, p, hz⟩ := I.tuple hq
    obtain ⟨f0, f1, f2, f3, f4, f5⟩ := hf it (by simp)
    have hl := rv.length
    have hT : s.TypeIs (.ref e) "enumerate" := ⟨_, he, rfl⟩
    unfold pyNext
    refine wpAny_bind (wpAny_attempt (wpAny_callSpecial?_slot (name := Str.ofString "__next__") hT F.slot_enumerate_next
      (wpAny_call_entry F.slot_enumerate_next hT F.entry_enumerate_next ?_ (F.args_enumerate_next_1 _))))
    show wpAny _ _ (field (.ref e) 2 >>= _) _ _ _
    refine wpAny_bind (wpAny_field he rfl (x := .ref it) rfl ?_)
    refine wpAny_bind (wpAny_nextOf_tuple_end (show X.A.in1.handled = none from I.ok.hd hc) hit (show s.heap.IsTuple a its.toArray from p) (by simp; omega) fun h' x he' hx' => ?_)
    obtain ⟨o, ho, hc'⟩ := hx'
    refine wpAny_bind (wpAny_isInstance (T := "StopIteration") (b := true) ⟨o, ho, hc'⟩ isSubtype_stop ?_)
    exact wpAny_pure ⟨rfl, I.turned (t' := s.toks) (fun b o hb q => he' b o hb q) f0 f1 f3 f4 f5⟩
  self := fun A i s Q E st h => let ⟨⟨_, he⟩, _⟩ := st; wpAny_pyIter_enum he h
def iEnumT (K : PySem.W.Frag) (ta : TA) : TI := fun σ H R => ta σ H fun vs H1 => ∃ a xs, vs = [.ref a] ∧ SqT K H1 a xs ∧ R (IteT K a) H1
theorem pi_enumT {X : Cx} {e : Expr} {ta : TA} {p pos tpos : Pos} {elts : List Expr} {kk : Nat} (hg : Gl X "enumerate") (hm : X.mg "enumerate" = none) (ha : PA X [e] ta) (hs : starEach [e] X.env = [(false, eval e X.env)] := by rfl) :
    PI X (.Tuple elts kk tpos) (.Call (.Name "enumerate" p) [e] [] pos) (iEnumT X.K ta) := by
  refine ⟨fun pins s σ H R I h => ?_⟩
  refine Call_ (ld_blt I hg hm boot_enumerate (PyProof.Rows.callWith_type1 (thn (ha.run pos pins s σ H _ I h) fun us s1 ⟨vs, H1, I1, r1, q1⟩ => ?_) hs rfl))
  obtain ⟨a, xs, ex, hq, q⟩ := q1
  subst ex
  cases r1 with
  | cons r rr =>
    cases rr
    cases r
    obtain ⟨its, rv, p', hz⟩ := I1.tuple hq
    have la : a < s1.heap.objs.size := p'.lt
    refine call_enumerate_tuple (show s1.heap.IsTuple a its.toArray from p') fun h' he hit hsz hk => wpAny_pyIter_enum he ?_
    have I2 : Inv X pins σ H1 { s1 with heap := h' } := I1.kept (t' := s1.toks) hk
    refine ⟨s1.heap.objs.size + 1, [s1.heap.objs.size + 1, s1.heap.objs.size], _, _, H1, rfl, I2, turn_enumT a (s1.heap.objs.size + 1) s1.heap.objs.size (Nat.ne_of_gt (Nat.lt_succ_of_lt la)) (Nat.ne_of_lt la), ⟨⟨.none, he⟩, hit, Nat.succ_ne_self _⟩, fun b hb => ?_, q⟩
    have e' : b = s1.heap.objs.size + 1 ∨ b = s1.heap.objs.size := by simpa using hb
    have hle : s1.heap.objs.size ≤ b := by
      rcases e' with z | z
      · rw [z]; exact Nat.le_add_right _ _
      · rw [z]; exact Nat.le_refl _
    exact I1.fpOk hle (I1.hok.fresh hle)
theorem walk_enumT {K : PySem.W.Frag} {a : Addr} {xs : List V} : Walk (IteT K a) xs.length (fun H => SqT K H a xs) (YPair (fun i => some (.int (i : Nat))) (fun i => xs[i]?)) := by
  refine ⟨fun i _ hi q => ⟨xs, xs[i], q, by simp [hi]⟩, fun _ q => ⟨xs, q, Nat.le_refl _⟩, fun i H v H' _ q y => ?_⟩
  obtain ⟨T, x, h1, h2, h3, h4⟩ := y
  exact ⟨T, .int (i : Nat), x, h1, h2, h3, rfl, h4 xs q⟩
end L2
namespace DL
open PySem PySem.Spec L2
/-- (0, x0), (1, x1), .. -/
def enumD (ds : List D) : List D := ds.zipIdx.map fun p => .t [.i (p.2 : Nat), p.1]
theorem enumD_len (ds : List D) : (enumD ds).length = ds.length := by unfold enumD; rw [List.length_map, List.length_zipIdx]
theorem enumD_get {ds : List D} {i : Nat} {d : D} (h : ds[i]? = some d) : (enumD ds)[i]? = some (.t [.i (i : Nat), d]) := by
  unfold enumD
  rw [List.getElem?_map, List.getElem?_zipIdx, h]
  simp
theorem ji_enumT {X : Cx} {Γ : En} {a : Expr} {p pos tpos : Pos} {elts : List Expr} {kk : Nat} {ds : List D} (hm : X.mg "enumerate" = none) (ha : PE X a (tR X.K Γ (.d (.t ds)))) (hg : Gl X "enumerate" := by rfl) (hs : starEach [a] X.env = (false, eval a X.env) :: starEach [] X.env := by rfl) (hs3 : starEach [] X.env = [] := by rfl) :
    PI X (.Tuple elts kk tpos) (.Call (.Name "enumerate" p) [a] [] pos) (tI X.K Γ (enumD ds)) :=
  pi_imp (pi_enumT hg hm (ja_cons ha ja_nil hs) (by rw [hs, hs3])) fun σ H R ⟨Z, k, q⟩ => ⟨Z, k, fun vs H1 n r => by
    obtain ⟨v, r1, e, ⟨A, us, e3, h1, h2⟩, h3⟩ := r
    have h3 : r1 = [] := h3
    subst h3 e3 e
    refine ⟨A, us, rfl, SqT.of (minus_some h1).1, q _ H1 (fun H => SqT X.K H A us) _ n (by rw [enumD_len, ← h2.len]; exact walk_enumT) (fun H2 k => SqT.of (k.tk _ _ h1 rfl)) fun i Ha x Hb hi k y => ?_⟩
    obtain ⟨T, u, w, rfl, nT, rfl, y1, y2⟩ := y
    cases y1
    obtain ⟨d2, g2, d2'⟩ := h2.get y2
    have kp : TK Ha (upd Ha T (.tup [.int (i : Nat), w])) := (Keep.new nT).tk
    exact ⟨.inr ⟨T, _, nT, rfl⟩, _, enumD_get g2, T, [_, w], rfl, upd_same, dns_cons rfl (dns_cons ((d2'.k k.tk).k kp) dns_nil)⟩⟩
end DL
end

section
set_option Elab.async false
set_option linter.all false
set_option maxRecDepth 100000
set_option maxHeartbeats 2000000
/-! D6: sorted of tuples of ints. -/
namespace DL
open PySem PySem.Spec L2
section
variable {X : Cx} {K : PySem.W.Frag} {Γ : En} {a : Expr} {p pos : Pos} {α : Type}
theorem dns_perm {H : Hp} {e : α → D} : ∀ {vs ys : List V}, ys.Perm vs → ∀ {l : List α}, Dns K H (l.map e) vs → ∃ l' : List α, l'.Perm l ∧ Dns K H (l'.map e) ys := by
  intro vs ys hp
  induction hp with
  | nil => exact fun {l} h => ⟨l, .refl _, h⟩
  | @cons x ys vs h ih =>
    intro l hl
    cases l with
    | nil =>
      have : x :: vs = [] := hl
      cases this
    | cons y l =>
      obtain ⟨v, r, e1, h1, h2⟩ := hl
      cases e1
      obtain ⟨l', q1, q2⟩ := ih h2
      exact ⟨y :: l', q1.cons y, _, _, rfl, h1, q2⟩
  | @swap x y r =>
    intro l hl
    cases l with
    | nil =>
      have : x :: y :: r = [] := hl
      cases this
    | cons u l =>
      obtain ⟨v, r1, e1, h1, h2⟩ := hl
      cases e1
      cases l with
      | nil =>
        have : y :: r = [] := h2
        cases this
      | cons u2 l =>
        obtain ⟨v2, r2, e2, h3, h4⟩ := h2
        cases e2
        exact ⟨u2 :: u :: l, .swap _ _ _, _, _, rfl, h3, _, _, rfl, h1, h4⟩
  | trans _ _ ih1 ih2 =>
    intro l hl
    obtain ⟨l1, q1, q2⟩ := ih2 hl
    obtain ⟨l2, q3, q4⟩ := ih1 q2
    exact ⟨l2, q3.trans q1, q4⟩
theorem dns_tup {H : Hp} {e : α → D} {key : α → List Int} : ∀ {l : List α} {vs : List V}, (∀ x ∈ l, e x = .t (nums (key x))) → Dns K H (l.map e) vs → ∀ v ∈ vs, ∃ x ∈ l, TupI K H v (key x)
  | [], vs, _, h, v, hv => by
    rw [show vs = [] from h] at hv
    cases hv
  | y :: l, _, he, ⟨w, r, e1, h1, h2⟩, v, hv => by
    subst e1
    rcases List.mem_cons.mp hv with q | q
    · subst q
      rw [he y List.mem_cons_self] at h1
      obtain ⟨a, ws, e2, h3, h4⟩ := h1
      obtain rfl := dns_nums h4
      exact ⟨y, List.mem_cons_self, a, e2, SqT.of h3⟩
    · obtain ⟨x, hx, q⟩ := dns_tup (fun x hx => he x (List.mem_cons_of_mem _ hx)) h2 v q
      exact ⟨x, List.mem_cons_of_mem _ hx, q⟩
theorem dns_pair {H : Hp} {e : α → D} {key : α → List Int} {R : List Int → List Int → Prop} : ∀ {l : List α} {vs : List V}, (∀ x ∈ l, e x = .t (nums (key x))) → Dns K H (l.map e) vs → vs.Pairwise (fun x y => ∀ n m, TupI K H x n → TupI K H y m → R n m) → l.Pairwise fun x y => R (key x) (key y)
  | [], _, _, _, _ => .nil
  | y :: l, _, he, ⟨w, r, e1, h1, h2⟩, hp => by
    subst e1
    rw [List.pairwise_cons] at hp ⊢
    have tup : ∀ {x : α} {v : V}, e x = .t (nums (key x)) → Dn K H (e x) v → TupI K H v (key x) := fun {x v} e1 h => by
      rw [e1] at h
      obtain ⟨a, ws, e2, h3, h4⟩ := h
      obtain rfl := dns_nums h4
      exact ⟨a, e2, SqT.of h3⟩
    refine ⟨fun x hx => ?_, dns_pair (fun x hx => he x (List.mem_cons_of_mem _ hx)) h2 hp.2⟩
    obtain ⟨i, hi⟩ := List.getElem?_of_mem hx
    obtain ⟨v, hv, hd⟩ := h2.at (show (l.map e)[i]? = some (e x) by rw [List.getElem?_map, hi]; rfl)
    exact hp.1 v (List.mem_of_getElem? hv) _ _ (tup (he y List.mem_cons_self) h1) (tup (he x (List.mem_cons_of_mem _ hx)) hd)
/-- sorted(xs): the same items, by their codes -/
theorem je_sorted {l : List α} {e : α → D} (key : α → List Int) (d : Nat) (B : Int) (hd : 1 ≤ d) (hm : X.mg "sorted" = none) (he : ∀ x ∈ l, e x = .t (nums (key x))) (hk : ∀ x ∈ l, (key x).length = d ∧ TS.Bd B (key x)) (hn : l.length < 64) (ha : PE X a (tR X.K Γ (.p (pl X.K (l.map e)))))
    (hg : Gl X "sorted" := by rfl) (hs : starEach [a] X.env = (false, eval a X.env) :: starEach [] X.env := by rfl) :
    PE X (.Call (.Name "sorted" p) [a] [] pos) (tF X.K Γ fun c => ∃ l' : List α, l'.Perm l ∧ l'.Pairwise (fun x y => TS.code B (key x) ≤ TS.code B (key y)) ∧ c = cl X.K (l'.map e)) :=
  je_callBF (cr_sortT (d := d) (B := B) hd) (fun B' H vs Q kb tk h q => by
    obtain ⟨v, r, e0, ⟨a, ws, e1, h1, h2⟩, h3⟩ := h
    have h3 : r = [] := h3
    subst h3 e1
    have h2' := h2.k kb.tk
    refine ⟨a, ws, e0, kb.seqL h1, by rw [h2.len, List.length_map]; exact hn, fun x hx => ?_, fun ys p hp hpw hfr => ?_⟩
    · obtain ⟨y, hy, t⟩ := dns_tup he h2' x hx
      exact ⟨key y, t, (hk y hy).1, (hk y hy).2⟩
    · obtain ⟨l', q1, q2⟩ := dns_perm hp h2'
      exact q _ p _ _ ⟨l', q1, dns_pair (fun x hx => he x (q1.mem_iff.mp hx)) q2 hpw, rfl⟩ (Keep.new hfr) hfr upd_same ⟨ys, rfl, q2.k (Keep.new hfr).tk⟩) hm (by decide +kernel) (ja_cons ha ja_nil hs) hg (by decide) (by decide) hs
end
end DL
end

section
/-! M0: the clock as plain data, what its functions give. -/
namespace LC
/-- a clock -/
structure Clk where
  per : Nat
  eds : List Nat
  tch : List (Nat × Nat × Nat)
  gps : List (List Nat)
  bk : List (Nat × Nat × Nat × Nat)
def lmax (l : List Nat) : Nat := l.foldr max 0
theorem lmax_cons (x : Nat) (l : List Nat) : lmax (x :: l) = max x (lmax l) := rfl
theorem le_lmax : ∀ {l : List Nat} {x : Nat}, x ∈ l → x ≤ lmax l
  | y :: l, x, h => by
    rw [lmax_cons]
    rcases List.mem_cons.mp h with e | h
    · subst e
      exact Nat.le_max_left _ _
    · exact Nat.le_trans (le_lmax h) (Nat.le_max_right _ _)
theorem lmax_mem : ∀ l : List Nat, lmax l = 0 ∨ lmax l ∈ l
  | [] => .inl rfl
  | y :: l => by
    rw [lmax_cons]
    rcases lmax_mem l with h | h
    · rw [h, Nat.max_zero]
      exact .inr List.mem_cons_self
    · rcases Nat.le_total y (lmax l) with q | q
      · rw [Nat.max_eq_right q]
        exact .inr (List.mem_cons_of_mem _ h)
      · rw [Nat.max_eq_left q]
        exact .inr List.mem_cons_self
/-- least_needed -/
def needs1 (c : Clk) (w o : Nat) : List (Nat × Nat × Nat × Nat) := c.bk.filter fun x => decide (x.1 = w) && decide (x.2.2.1 = o)
def needed (c : Clk) (w e o : Nat) : Nat := lmax (((needs1 c w o).filter fun x => decide (x.2.1 ≤ e)).map fun x => x.2.2.2)
def pairsAt (c : Clk) (p : Nat) : List (Nat × Nat) := (c.tch.filter fun t => decide (t.1 = p)).map fun t => t.2
def phasesOf (c : Clk) (i j : Nat) : List Nat := (c.tch.filter fun t => decide (t.2.1 = min i j) && decide (t.2.2 = max i j)).map fun t => t.1
/-- standing at a wheel, gaps of a wheel -/
def at_ (l : List Nat) (i : Nat) : Nat := l.getD i 0
def gapsOf (c : Clk) (w : Nat) : List Nat := c.gps.getD w []
def fitB (c : Clk) (s : List Nat) (x : Nat × Nat) : Bool := decide (needed c x.1 (at_ s x.1) x.2 ≤ at_ s x.2) && decide (needed c x.2 (at_ s x.2) x.1 ≤ at_ s x.1)
def notFit (c : Clk) (s : List Nat) (p : Nat) : List (Nat × Nat) := (pairsAt c p).filter fun x => !fitB c s x
/-- the first t, t + 1, .. with p, within so many -/
def up (p : Int → Bool) : Nat → Int → Int
  | 0, t => t
  | k + 1, t => if p t then t else up p k (t + 1)
def dn (p : Int → Bool) : Nat → Int → Int
  | 0, t => t
  | k + 1, t => if p t then t else dn p k (t - 1)
def ph (c : Clk) (t : Int) : Nat := (t % (c.per : Int)).toNat
def gapFrom (c : Clk) (w : Nat) (t : Int) : Int := up (fun t => decide (ph c t ∈ gapsOf c w)) c.per t
def aboveT (c : Clk) (i j : Nat) (t : Int) : Int := dn (fun t => decide (ph c (t - 1) ∈ phasesOf c i j)) c.per t
def pushed (c : Clk) (x y : Nat × Nat) (t : Int) : Int := if x.1 = y.1 then gapFrom c x.1 (t + 1) else gapFrom c x.1 (aboveT c x.1 y.1 t)
/-- a clock that the law may build -/
structure Good (c : Clk) : Prop where
  per0 : 0 < c.per
  per4 : c.per ≤ 4
  n0 : 0 < c.eds.length
  n3 : c.eds.length ≤ 3
  ed : ∀ x ∈ c.eds, x ≤ 2
  sum : c.eds.sum ≤ 4
  tn : c.tch.length ≤ 20
  tv : ∀ t ∈ c.tch, t.1 < c.per ∧ t.2.1 < t.2.2 ∧ t.2.2 < c.eds.length
  ts : c.tch.Pairwise fun a b => a.1 < b.1 ∨ (a.1 = b.1 ∧ (a.2.1 < b.2.1 ∨ (a.2.1 = b.2.1 ∧ a.2.2 < b.2.2)))
  gn : c.gps.length = c.eds.length
  gv : ∀ g ∈ c.gps, g ≠ [] ∧ (∀ x ∈ g, x < c.per) ∧ g.Pairwise (· < ·)
  bn : c.bk.length ≤ 20
  bv : ∀ x ∈ c.bk, x.1 < c.eds.length ∧ x.2.2.1 < c.eds.length ∧ x.1 ≠ x.2.2.1 ∧ 1 ≤ x.2.1 ∧ x.2.1 ≤ at_ c.eds x.1 ∧ 1 ≤ x.2.2.2 ∧ x.2.2.2 ≤ at_ c.eds x.2.2.1
  bs : c.bk.Pairwise fun a b => a.1 < b.1 ∨ (a.1 = b.1 ∧ (a.2.1 < b.2.1 ∨ (a.2.1 = b.2.1 ∧ a.2.2.1 < b.2.2.1)))
/-- a standing of it -/
structure Std (c : Clk) (s : List Nat) : Prop where
  len : s.length = c.eds.length
  le : ∀ i, at_ s i ≤ at_ c.eds i
theorem at_get {l : List Nat} {i : Nat} (h : i < l.length) : l[i]? = some (at_ l i) := by
  unfold at_
  rw [List.getD_eq_getElem?_getD, List.getElem?_eq_getElem h]
  rfl
theorem up_hit (p : Int → Bool) : ∀ (k : Nat) (t : Int) (j : Nat), j < k → p (t + j) = true → p (up p k t) = true
  | 0, _, _, h, _ => by omega
  | k + 1, t, j, h, hp => by
    unfold up
    by_cases q : p t = true
    · rw [if_pos q]
      exact q
    · rw [if_neg q]
      cases j with
      | zero =>
        rw [show t + ((0 : Nat) : Int) = t by omega] at hp
        exact absurd hp q
      | succ j => exact up_hit p k (t + 1) j (by omega) (by rw [show t + 1 + (j : Int) = t + ((j + 1 : Nat) : Int) by omega]; exact hp)
theorem dn_hit (p : Int → Bool) : ∀ (k : Nat) (t : Int) (j : Nat), j < k → p (t - j) = true → p (dn p k t) = true
  | 0, _, _, h, _ => by omega
  | k + 1, t, j, h, hp => by
    unfold dn
    by_cases q : p t = true
    · rw [if_pos q]
      exact q
    · rw [if_neg q]
      cases j with
      | zero =>
        rw [show t - ((0 : Nat) : Int) = t by omega] at hp
        exact absurd hp q
      | succ j => exact dn_hit p k (t - 1) j (by omega) (by rw [show t - 1 - (j : Int) = t - ((j + 1 : Nat) : Int) by omega]; exact hp)
/-- every phase comes within a round -/
theorem ph_up {c : Clk} (h : 0 < c.per) (t : Int) {x : Nat} (hx : x < c.per) : ∃ j, j < c.per ∧ ph c (t + (j : Nat)) = x := by
  have h0 : (0 : Int) < c.per := by omega
  refine ⟨(((x : Int) - t) % (c.per : Int)).toNat, ?_, ?_⟩
  · have h1 := Int.emod_nonneg ((x : Int) - t) (Int.ne_of_gt h0)
    have h2 := Int.emod_lt_of_pos ((x : Int) - t) h0
    omega
  · have h1 := Int.emod_nonneg ((x : Int) - t) (Int.ne_of_gt h0)
    unfold ph
    rw [Int.toNat_of_nonneg h1, Int.add_emod_emod, show t + ((x : Int) - t) = x by omega, Int.emod_eq_of_lt (by omega) (by omega)]
    rfl
theorem ph_dn {c : Clk} (h : 0 < c.per) (t : Int) {x : Nat} (hx : x < c.per) : ∃ j, j < c.per ∧ ph c (t - (j : Nat)) = x := by
  have h0 : (0 : Int) < c.per := by omega
  refine ⟨((t - (x : Int)) % (c.per : Int)).toNat, ?_, ?_⟩
  · have h1 := Int.emod_nonneg (t - (x : Int)) (Int.ne_of_gt h0)
    have h2 := Int.emod_lt_of_pos (t - (x : Int)) h0
    omega
  · have h1 := Int.emod_nonneg (t - (x : Int)) (Int.ne_of_gt h0)
    unfold ph
    rw [Int.toNat_of_nonneg h1, Int.sub_emod, Int.emod_emod_of_dvd _ (Int.dvd_refl _), ← Int.sub_emod, show t - (t - (x : Int)) = x by omega, Int.emod_eq_of_lt (by omega) (by omega)]
    rfl
end LC
end

section
set_option Elab.async false
set_option linter.all false
set_option maxRecDepth 100000
set_option maxHeartbeats 4000000
/-! E0: the text by places, the data by encoding; helpers. -/
namespace LW
open PySem PySem.Spec L2 DL LC
def topS (i : Nat) : Stmt := PySem.Challenge.pw_livingclock_k28_whole_misses.main.body.getD i (.Pass ⟨0, 0, 0, 0⟩)
def nn (l : List Nat) : List Int := l.map fun (n : Nat) => (n : Int)
def eN (n : Nat) : D := .i n
def e2 (x : Nat × Nat) : D := .t [eN x.1, eN x.2]
def e3 (x : Nat × Nat × Nat) : D := .t [eN x.1, eN x.2.1, eN x.2.2]
def e4 (x : Nat × Nat × Nat × Nat) : D := .t [eN x.1, eN x.2.1, eN x.2.2.1, eN x.2.2.2]
def eT (l : List Nat) : D := .t (nums (nn l))
def eC (c : Clk) : D := .t [eN c.per, eT c.eds, .t (c.tch.map e3), .t (c.gps.map eT), .t (c.bk.map e4)]
theorem nums_nn (l : List Nat) : nums (nn l) = l.map eN := by
  unfold nums nn
  rw [List.map_map]
  rfl
theorem nn_len (l : List Nat) : (nums (nn l)).length = l.length := by rw [nums_nn, List.length_map]
theorem atI_map {α : Type} {l : List α} {f : α → D} {i : Nat} {x : α} (h : l[i]? = some x) : L2.atI (l.map f) ((i : Nat) : Int) = some (f x) := atI_nat (by rw [List.getElem?_map, h]; rfl)
theorem ix_nn {l : List Nat} {i : Nat} (h : i < l.length) : L2.atI (nums (nn l)) ((i : Nat) : Int) = some (eN (at_ l i)) := by
  rw [nums_nn]
  exact atI_map (at_get h)
theorem gaps_get {c : Clk} {w : Nat} (h : w < c.gps.length) : c.gps[w]? = some (gapsOf c w) := by
  unfold gapsOf
  rw [List.getD_eq_getElem?_getD, List.getElem?_eq_getElem h]
  rfl
theorem ix_gaps {c : Clk} {w : Nat} (h : w < c.gps.length) : L2.atI (c.gps.map eT) ((w : Nat) : Int) = some (eT (gapsOf c w)) := atI_map (gaps_get h)
theorem mem_nn {n : Nat} {l : List Nat} : ((n : Nat) : Int) ∈ nn l ↔ n ∈ l := by
  unfold nn
  rw [List.mem_map]
  constructor
  · rintro ⟨m, h, e⟩
    rw [← Int.ofNat_inj.mp e]
    exact h
  · exact fun h => ⟨n, h, rfl⟩
theorem ph_cast {c : Clk} (h : 0 < c.per) (t : Int) : ((ph c t : Nat) : Int) = t % (c.per : Int) := by
  unfold ph
  exact Int.toNat_of_nonneg (Int.emod_nonneg _ (by omega))
theorem mem_ph {c : Clk} (h : 0 < c.per) (t : Int) (l : List Nat) : decide (t % (c.per : Int) ∈ nn l) = decide (ph c t ∈ l) := by
  rw [← ph_cast h, decide_eq_decide]
  exact mem_nn
theorem ph_lt {c : Clk} (h : 0 < c.per) (t : Int) : ph c t < c.per := by
  have h0 : (0 : Int) < c.per := by omega
  have h1 := Int.emod_lt_of_pos t h0
  have h2 := Int.emod_nonneg t (Int.ne_of_gt h0)
  unfold ph
  omega
/-- a def of the text that keeps a promise -/
structure Df (P : Program) (w : World) (K : PySem.W.Frag) (mg : Str → Option Value) (base : Heap) (k : Nat) (x : Str) (ps : List Str) (m : Pm) : Prop where
  ex : ∃ (f : Addr) (fd : FuncData), FnOk P w K mg base CX0 k f fd ps (spP K m) ∧ mg x = some (.ref f) ∧ PySem.W.keepIn K (.ref f) = true ∧ Binds K fd ps []
section
variable {X : Cx} {Γ : En} {e : Expr} {es : List Expr} {pos p : Pos} {d : D} {k j : Nat} {x : Str} {ps : List Str} {m : Pm}
theorem jc {k : Nat} (G : Df X.prog X.w X.K X.mg X.base k x ps m) (i : m.ix) (hr : Room j X.A) (hk : k ≤ j) (ha : PA X (e :: es) (tA X.K Γ (m.A i))) (h0 : m.G i) (h1 : ∀ r, m.R i r → r = .d d)
    (hg : Gl X x := by rfl) (hdb : (x == ("__debug__" : Str)) = false := by decide) (he : starEach (e :: es) X.env = (false, eval e X.env) :: starEach es X.env := by rfl) (hpl : (backTo pos (starEach es X.env)).any (·.1) = false := by rfl) :
    PE X (.Call (.Name x p) (e :: es) [] pos) (tR X.K Γ (.d d)) := by
  obtain ⟨f, fd, F, hm, kp, b⟩ := G.ex
  exact je_call i F (hr.mono hk) hm kp b ha h0 h1 hg hdb he hpl
theorem jcN {k : Nat} {P : D → Prop} (G : Df X.prog X.w X.K X.mg X.base k x ps m) (i : m.ix) (hr : Room j X.A) (hk : k ≤ j) (ha : PA X (e :: es) (tA X.K Γ (m.A i))) (h0 : m.G i) (h1 : ∀ r, m.R i r → ∃ d, r = .d d ∧ P d)
    (hg : Gl X x := by rfl) (hdb : (x == ("__debug__" : Str)) = false := by decide) (he : starEach (e :: es) X.env = (false, eval e X.env) :: starEach es X.env := by rfl) (hpl : (backTo pos (starEach es X.env)).any (·.1) = false := by rfl) :
    PE X (.Call (.Name x p) (e :: es) [] pos) (tN X.K Γ P) := by
  obtain ⟨f, fd, F, hm, kp, b⟩ := G.ex
  exact je_callN i F (hr.mono hk) hm kp b ha h0 h1 hg hdb he hpl
theorem jcF {k : Nat} {P : Ct → Prop} (G : Df X.prog X.w X.K X.mg X.base k x ps m) (i : m.ix) (hr : Room j X.A) (hk : k ≤ j) (ha : PA X (e :: es) (tA X.K Γ (m.A i))) (h0 : m.G i) (h1 : ∀ r, m.R i r → ∃ c, r = .o c ∧ P c)
    (hg : Gl X x := by rfl) (hdb : (x == ("__debug__" : Str)) = false := by decide) (he : starEach (e :: es) X.env = (false, eval e X.env) :: starEach es X.env := by rfl) (hpl : (backTo pos (starEach es X.env)).any (·.1) = false := by rfl) :
    PE X (.Call (.Name x p) (e :: es) [] pos) (tF X.K Γ P) := by
  obtain ⟨f, fd, F, hm, kp, b⟩ := G.ex
  exact je_callF i F (hr.mono hk) hm kp b ha h0 h1 hg hdb he hpl
end
section
variable {P : Program} {w : World} {K : PySem.W.Frag} {mg : Str → Option Value} {base : Heap} {x : Str} {qual : Str} {st : Stmt} {f : Addr} {fd : FuncData} {ps : List Str} {m : Pm} {k : Nat}
theorem df_mk (F : Fun K x qual st f fd) (hm : mg x = some (.ref f)) (b : Binds K fd ps []) (ok : FnOk P w K mg base CX0 k f fd ps (spP K m)) : Df P w K mg base k x ps m := ⟨f, fd, ok, hm, F.kp, b⟩
end
end LW
end

section
set_option Elab.async false
set_option linter.all false
set_option maxRecDepth 100000
set_option maxHeartbeats 4000000
/-! E1: least_needed .. pushed. -/
namespace LW
open PySem PySem.Spec L2 DL LC
section
variable {P : Program} {w : World} {K : PySem.W.Frag} {mg : Str → Option Value} {base : Heap} {f : Addr} {fd : FuncData}
abbrev sLeast : Stmt := topS 24
abbrev nLeast : List Str := ["clock", "wheel", "edition", "other", "entries", "entry"]
theorem scLeast : FnScope nLeast ["clock", "wheel", "edition", "other"] (defScope sLeast) := ⟨rfl, rfl, rfl, by decide +kernel, rfl, by decide +kernel, by decide +kernel⟩
def pmLeast : Pm := ⟨Clk × Nat × Nat × Nat, fun (c, w, e, o) => [.d (eC c), .d (eN w), .d (eN e), .d (eN o)], fun (c, _) => c.bk.length ≤ 1000, fun (c, w, e, o) r => r = .d (eN (needed c w e o))⟩
theorem ok_least (F : Fun K "least_needed" "least_needed" sLeast f fd) (mmax : mg "max" = none) : FnOk P w K mg base CX0 1 f fd ["clock", "wheel", "edition", "other"] (spP K pmLeast) := by
  refine fn_ok F scLeast (fun _ => rfl) (fun _ _ => by simp [pmLeast]) (by decide) fun cdv A outer s H E ⟨c, w, e, o⟩ hr hb => ?_
  · replace hb : c.bk.length ≤ 1000 := hb
    show PSs _ _ (tS K [.d (eC c), .d (eN w), .d (eN e), .d (eN o), .u, .u] _)
    refine js_cons (js_setLc 4 (xs := c.bk) (enc := e4) (f := e4) (pb := fun x => decide (x.1 = w) && decide (x.2.2.1 = o)) (Γe := fun x => [.d (eC c), .d (eN w), .d (eN e), .d (eN o), .u, .d (e4 x)]) (own := [("entry", 5)]) rfl scLeast.nd rfl rfl (by simp)
      (sw_true rfl rfl rfl (by decide +kernel)) ?hi (blkOk_by (N := nLeast) (sc := defScope sLeast) (by decide +kernel)) (tg_name 5) (by decide) rfl (fun x _ => rfl) (by omega) (fun _ _ _ _ _ => pg_name scLeast.nd rfl (Or.inl rfl)) ?ht ?he ?_)
    case hi => exact ji_tup (je_ix (jv 0) je_int)
    case ht =>
      intro x hx s H C cl fp
      refine jts_one (jt_is (PW.pt (jw_and (jt_eqI (je_ix (jv 5) je_int) (jv 1)) fun _ => jw_and1 (jt_eqI (je_ix (jv 5) je_int) (jv 3)))) ?_)
      simp [Int.ofNat_inj]
    case he =>
      intro x hx hp s H C cl fp
      exact jv 5
    refine js_freeze 4 rfl (js_one (js_ret (je_maxL (ns := 0 :: (nn (((needs1 c w o).filter fun x => decide (x.2.1 ≤ e)).map fun x => x.2.2.2))) rfl mmax (je_fp (je_catF (ys := ((needs1 c w o).filter fun x => decide (x.2.1 ≤ e)).map fun x => eN x.2.2.2) (je_lst (ds := [.i 0]) (ja_cons je_int ja_nil)) ?_ ?_)) ?_ ?_ ?_) rfl))
    · refine je_lc (xs := needs1 c w o) (enc := e4) (f := fun x => eN x.2.2.2) (pb := fun x => decide (x.2.1 ≤ e)) (Γe := fun x => [.d (eC c), .d (eN w), .d (eN e), .d (eN o), .p (plt K ((needs1 c w o).map e4)), .d (e4 x)]) [("entry", 5)] rfl scLeast.nd (ji_list (je_pl (jvp 4)))
        (blkOk_by (N := nLeast) (sc := defScope sLeast) (by decide +kernel)) (tg_name 5) (by decide) rfl (fun x _ => rfl) ?_ (fun _ _ _ _ _ => pg_name scLeast.nd rfl (Or.inl rfl)) (fun x hx s H C cl fp => jts_one (jt_is (jt_le (je_ix (jv 5) je_int) (jv 2)) ?_)) (fun x hx hp s H C cl fp => je_ix (jv 5) je_int)
      · exact Nat.le_trans (List.length_filter_le _ _) (by omega)
      · simp [Int.ofNat_le]
    · have h1 : (((needs1 c w o).filter fun x => decide (x.2.1 ≤ e)).map fun x => eN x.2.2.2).length ≤ c.bk.length := by
        rw [List.length_map]
        exact Nat.le_trans (List.length_filter_le _ _) (List.length_filter_le _ _)
      simp only [List.length_cons, List.length_nil]
      omega
    · unfold nums nn
      simp [eN]
    · unfold needed nn
      rcases lmax_mem (((needs1 c w o).filter fun x => decide (x.2.1 ≤ e)).map fun x => x.2.2.2) with h | h
      · rw [h]
        exact List.mem_cons_self
      · exact List.mem_cons_of_mem _ (List.mem_map.mpr ⟨_, h, rfl⟩)
    · intro y hy
      unfold needed
      rcases List.mem_cons.mp hy with h | h
      · rw [h]
        exact Int.natCast_nonneg _
      · obtain ⟨z, hz, rfl⟩ := List.mem_map.mp h
        exact Int.ofNat_le.mpr (le_lmax hz)
/-! ### pairs_at, phases_of -/
abbrev sPairs : Stmt := topS 25
abbrev nPairs : List Str := ["clock", "phase", "touch"]
theorem scPairs : FnScope nPairs ["clock", "phase"] (defScope sPairs) := ⟨rfl, rfl, rfl, by decide +kernel, rfl, by decide +kernel, by decide +kernel⟩
def pmPairs (K : PySem.W.Frag) : Pm := ⟨Clk × Nat, fun (c, p) => [.d (eC c), .d (eN p)], fun (c, _) => c.tch.length ≤ 1000, fun (c, p) r => r = .o (cl K ((pairsAt c p).map e2))⟩
theorem ok_pairs (F : Fun K "pairs_at" "pairs_at" sPairs f fd) : FnOk P w K mg base CX0 1 f fd ["clock", "phase"] (spP K (pmPairs K)) := by
  refine fn_ok F scPairs (fun _ => rfl) (fun _ _ => by simp [pmPairs]) (by decide) fun cdv A outer s H E ⟨c, p⟩ hr hb => ?_
  · replace hb : c.tch.length ≤ 1000 := hb
    show PSs _ _ (tS K [.d (eC c), .d (eN p), .u] _)
    refine js_one (js_retF (je_lc (xs := c.tch) (enc := e3) (f := fun x => e2 x.2) (pb := fun x => decide (x.1 = p)) (Γe := fun x => [.d (eC c), .d (eN p), .d (e3 x)]) [("touch", 2)] rfl scPairs.nd (ji_tup (je_ix (jv 0) je_int))
        (blkOk_by (N := nPairs) (sc := defScope sPairs) (by decide +kernel)) (tg_name 2) (by decide) rfl (fun x _ => rfl) (by omega) (fun _ _ _ _ _ => pg_name scPairs.nd rfl (Or.inl rfl)) (fun x hx s H C cl fp => jts_one (jt_is (jt_eqI (je_ix (jv 2) je_int) (jv 1)) ?_)) (fun x hx hp s H C cl fp => je_is (je_from (jv 2) je_int) ?_)) fun cc hc => ?_)
    · simp [Int.ofNat_inj]
    · rfl
    · subst hc
      show Sl.o _ = Sl.o _
      unfold pairsAt
      rw [List.map_map]
      rfl
abbrev sPhases : Stmt := topS 26
abbrev nPhases : List Str := ["clock", "one", "other", "pair", "touch"]
theorem scPhases : FnScope nPhases ["clock", "one", "other"] (defScope sPhases) := ⟨rfl, rfl, rfl, by decide +kernel, rfl, by decide +kernel, by decide +kernel⟩
def pmPhases (K : PySem.W.Frag) : Pm := ⟨Clk × Nat × Nat, fun (c, i, j) => [.d (eC c), .d (eN i), .d (eN j)], fun (c, _) => c.tch.length ≤ 1000, fun (c, i, j) r => r = .o (cl K (nums (nn (phasesOf c i j))))⟩
theorem ok_phases (F : Fun K "phases_of" "phases_of" sPhases f fd) (mmin : mg "min" = none) (mmax : mg "max" = none) : FnOk P w K mg base CX0 1 f fd ["clock", "one", "other"] (spP K (pmPhases K)) := by
  refine fn_ok F scPhases (fun _ => rfl) (fun _ _ => by simp [pmPhases]) (by decide) fun cdv A outer s H E ⟨c, i, j⟩ hr hb => ?_
  · replace hb : c.tch.length ≤ 1000 := hb
    show PSs _ _ (tS K [.d (eC c), .d (eN i), .d (eN j), .u, .u] _)
    refine js_cons (js_set 3 scPhases.nd (je_tup (ds := [eN (min i j), eN (max i j)]) (ja_cons (je_is (je_min rfl mmin (jv 1) (jv 2)) ?_) (ja_cons (je_is (je_max rfl mmax (jv 1) (jv 2)) ?_) ja_nil))) ?_ (hx := Or.inr rfl))
    · unfold eN
      split <;> congr 1 <;> omega
    · unfold eN
      split <;> congr 1 <;> omega
    refine js_one (js_retF (je_lc (xs := c.tch) (enc := e3) (f := fun x => eN x.1) (pb := fun t => decide (t.2.1 = min i j) && decide (t.2.2 = max i j)) (Γe := fun x => [.d (eC c), .d (eN i), .d (eN j), .d (.t [eN (min i j), eN (max i j)]), .d (e3 x)]) [("touch", 4)] rfl scPhases.nd (ji_tup (je_ix (jv 0) je_int))
        (blkOk_by (N := nPhases) (sc := defScope sPhases) (by decide +kernel)) (tg_name 4) (by decide) rfl (fun x _ => rfl) (by omega) (fun _ _ _ _ _ => pg_name scPhases.nd rfl (Or.inl rfl)) (fun x hx s H C cl fp => jts_one (jt_is (jt_eqT (ns := [(x.2.1 : Int), (x.2.2 : Int)]) (ms := [((min i j : Nat) : Int), ((max i j : Nat) : Int)]) hr.units (je_is (je_from (jv 4) je_int) ?_) (jv 3)) ?_)) (fun x hx hp s H C cl fp => je_ix (jv 4) je_int)) fun cc hc => ?_)
    · rfl
    · rw [Bool.eq_iff_iff]
      simp only [decide_eq_true_eq, Bool.and_eq_true, List.cons.injEq, and_true]
      omega
    · subst hc
      show Sl.o _ = Sl.o _
      rw [nums_nn]
      unfold phasesOf
      rw [List.map_map]
      rfl
end
end LW
end

section
set_option Elab.async false
set_option linter.all false
set_option maxRecDepth 100000
set_option maxHeartbeats 4000000
/-! E2: fit .. pushed. -/
namespace LW
open PySem PySem.Spec L2 DL LC
section
variable {P : Program} {w : World} {K : PySem.W.Frag} {mg : Str → Option Value} {base : Heap} {f : Addr} {fd : FuncData}
abbrev psLeast : List Str := ["clock", "wheel", "edition", "other"]
abbrev sFit : Stmt := topS 28
abbrev nFit : List Str := ["clock", "standing", "pair", "one", "other"]
theorem scFit : FnScope nFit ["clock", "standing", "pair"] (defScope sFit) := ⟨rfl, rfl, rfl, by decide +kernel, rfl, by decide +kernel, by decide +kernel⟩
def pmFit : Pm := ⟨Clk × List Nat × (Nat × Nat), fun (c, s, x) => [.d (eC c), .d (eT s), .d (e2 x)], fun (c, s, x) => Good c ∧ s.length = c.eds.length ∧ x.1 < c.eds.length ∧ x.2 < c.eds.length, fun (c, s, x) r => r = .d (.b (fitB c s x))⟩
theorem ok_fit (F : Fun K "fit" "fit" sFit f fd) (GL : Df P w K mg base 1 "least_needed" psLeast pmLeast) : FnOk P w K mg base CX0 2 f fd ["clock", "standing", "pair"] (spP K pmFit) := by
  refine fn_ok F scFit (fun _ => rfl) (fun _ _ => by simp [pmFit]) (by decide) fun cdv A outer s H E ⟨c, t, x⟩ hr hG => ?_
  obtain ⟨hg, hl, h1, h2⟩ := hG
  show PSs _ _ (tS K [.d (eC c), .d (eT t), .d (e2 x), .u, .u] _)
  have i1 : L2.atI (nums (nn t)) ((x.1 : Nat) : Int) = some (eN (at_ t x.1)) := ix_nn (by omega)
  have i2 : L2.atI (nums (nn t)) ((x.2 : Nat) : Int) = some (eN (at_ t x.2)) := ix_nn (by omega)
  have hb : c.bk.length ≤ 1000 := by have := hg.bn; omega
  refine js_cons (js_asg (jv 2) (pg_tup rfl (pgs_cons (pg_name (i := 3) scFit.nd rfl (.inl rfl)) (pgs_cons (pg_name (i := 4) scFit.nd rfl (.inl rfl)) pgs_nil))) (tg_names [3, 4]) (Γ' := [.d (eC c), .d (eT t), .d (e2 x), .d (eN x.1), .d (eN x.2)]) rfl ?_)
  refine js_cons (js_if (jt_lt (je_ix (jv 1) (jv 4) i2) (jc GL (c, x.1, at_ t x.1, x.2) hr (by decide) (ja_cons (jv 0) (ja_cons (jv 3) (ja_cons (je_ix (jv 1) (jv 3) i1) (ja_cons (jv 4) ja_nil)))) hb fun r h => h)) (fun q => ?_) (fun q => ?_))
  · refine js_one (js_ret je_bl ?_)
    show Sl.d _ = Sl.d _
    have q := of_decide_eq_true q
    have e : fitB c t x = false := by
      unfold fitB
      rw [decide_eq_false (by omega)]
      rfl
    rw [e]
  · refine js_nil (js_one (js_ret (je_ge (je_ix (jv 1) (jv 3) i1) (jc GL (c, x.2, at_ t x.2, x.1) hr (by decide) (ja_cons (jv 0) (ja_cons (jv 4) (ja_cons (je_ix (jv 1) (jv 4) i2) (ja_cons (jv 3) ja_nil)))) hb fun r h => h)) ?_))
    show Sl.d _ = Sl.d _
    have q := of_decide_eq_false q
    unfold fitB
    rw [decide_eq_true (show needed c x.1 (at_ t x.1) x.2 ≤ at_ t x.2 by omega), Bool.true_and, decide_eq_decide.mpr Int.ofNat_le]
abbrev sNotF : Stmt := topS 29
abbrev nNotF : List Str := ["clock", "standing", "phase", "pair"]
theorem scNotF : FnScope nNotF ["clock", "standing", "phase"] (defScope sNotF) := ⟨rfl, rfl, rfl, by decide +kernel, rfl, by decide +kernel, by decide +kernel⟩
def pmNotF (K : PySem.W.Frag) : Pm := ⟨Clk × List Nat × Nat, fun (c, s, p) => [.d (eC c), .d (eT s), .d (eN p)], fun (c, s, p) => Good c ∧ s.length = c.eds.length, fun (c, s, p) r => r = .o (cl K ((notFit c s p).map e2))⟩
theorem pairs_lt {c : Clk} (hg : Good c) {p : Nat} {x : Nat × Nat} (h : x ∈ pairsAt c p) : x.1 < x.2 ∧ x.2 < c.eds.length := by
  unfold pairsAt at h
  obtain ⟨t, ht, rfl⟩ := List.mem_map.mp h
  exact (hg.tv t (List.mem_filter.mp ht).1).2
theorem pairs_len (c : Clk) (p : Nat) : (pairsAt c p).length ≤ c.tch.length := by
  unfold pairsAt
  rw [List.length_map]
  exact List.length_filter_le _ _
theorem ok_notF (F : Fun K "not_fitting" "not_fitting" sNotF f fd) (GP : Df P w K mg base 1 "pairs_at" ["clock", "phase"] (pmPairs K)) (GF : Df P w K mg base 2 "fit" ["clock", "standing", "pair"] pmFit) : FnOk P w K mg base CX0 3 f fd ["clock", "standing", "phase"] (spP K (pmNotF K)) := by
  refine fn_ok F scNotF (fun _ => rfl) (fun _ _ => by simp [pmNotF]) (by decide) fun cdv A outer s H E ⟨c, t, p⟩ hr ⟨hg, hl⟩ => ?_
  show PSs _ _ (tS K [.d (eC c), .d (eT t), .d (eN p), .u] _)
  have hb : c.tch.length ≤ 1000 := by have := hg.tn; omega
  refine js_one (js_retF (je_lc (xs := pairsAt c p) (enc := e2) (f := e2) (pb := fun x => !fitB c t x) (Γe := fun x => [.d (eC c), .d (eT t), .d (eN p), .d (e2 x)]) [("pair", 3)] rfl scNotF.nd (ji_list (je_fp (jcF GP (c, p) hr (by decide) (ja_cons (jv 0) (ja_cons (jv 2) ja_nil)) hb fun r h => ⟨_, h, rfl⟩)))
      (blkOk_by (N := nNotF) (sc := defScope sNotF) (by decide +kernel)) (tg_name 3) (by decide) rfl (fun x _ => rfl) (by have := pairs_len c p; omega) (fun _ _ _ _ _ => pg_name scNotF.nd rfl (Or.inl rfl))
      (fun x hx s H C cl fp => jts_one (jt_not (jt_val (jc GF (c, t, x) hr (by decide) (ja_cons (jv 0) (ja_cons (jv 1) (ja_cons (jv 3) ja_nil))) ⟨hg, hl, by have := pairs_lt hg hx; show x.1 < _; omega, (pairs_lt hg hx).2⟩ fun r h => h)))) (fun x hx hp s H C cl fp => jv 3)) fun cc hc => ?_)
  subst hc
  rfl
/-! ### gap_from, above_touches, pushed -/
abbrev sGap : Stmt := topS 33
abbrev nGap : List Str := ["clock", "wheel", "tick", "found"]
theorem scGap : FnScope nGap ["clock", "wheel", "tick"] (defScope sGap) := ⟨rfl, rfl, rfl, by decide +kernel, rfl, by decide +kernel, by decide +kernel⟩
def pmGap : Pm := ⟨Clk × Nat × Int, fun (c, w, t) => [.d (eC c), .d (eN w), .d (.i t)], fun (c, w, t) => Good c ∧ w < c.eds.length, fun (c, w, t) r => r = .d (.i (gapFrom c w t))⟩
theorem gaps_ok {c : Clk} (hg : Good c) {w : Nat} (h : w < c.eds.length) : gapsOf c w ≠ [] ∧ (∀ x ∈ gapsOf c w, x < c.per) ∧ (gapsOf c w).Pairwise (· < ·) := hg.gv _ (List.mem_of_getElem? (gaps_get (by rw [hg.gn]; exact h)))
theorem ok_gap (F : Fun K "gap_from" "gap_from" sGap f fd) : FnOk P w K mg base CX0 1 f fd ["clock", "wheel", "tick"] (spP K pmGap) := by
  refine fn_ok F scGap (fun _ => rfl) (fun _ _ => by simp [pmGap]) (by decide) fun cdv A outer s H E ⟨c, v, t⟩ hr ⟨hg, hv⟩ => ?_
  show PSs _ _ (tS K [.d (eC c), .d (eN v), .d (.i t), .u] _)
  have hp := hg.per0
  have hig : L2.atI (c.gps.map eT) ((v : Nat) : Int) = some (eT (gapsOf c v)) := ix_gaps (by rw [hg.gn]; exact hv)
  obtain ⟨g1, g2, _⟩ := gaps_ok hg hv
  obtain ⟨x, hx⟩ := List.exists_mem_of_ne_nil _ g1
  obtain ⟨j0, hj0, ej0⟩ := ph_up hp t (g2 x hx)
  refine js_cons (js_set 3 scGap.nd (jv 2) ?_)
  refine js_cons (js_while (fun m Γ' => ∃ j, m + j = c.per ∧ j ≤ j0 ∧ Γ' = [.d (eC c), .d (eN v), .d (.i t), .d (.i (t + (j : Nat)))] ∧ gapFrom c v t = up (fun t => decide (ph c t ∈ gapsOf c v)) m (t + (j : Nat))) PassesOwn.never c.per ⟨0, by omega, by omega, by simp, by simp [gapFrom]⟩ ?_)
  rintro m Γ' ⟨j, hm, hj, rfl, hgap⟩
  refine ⟨_, jt_niT (je_mod (by show (0 : Int) < (c.per : Int); omega) (jv 3) (je_ix (jv 0) je_int)) (je_ix (je_ix (jv 0) je_int) (jv 1) hig), fun q => ?_, fun q => ?_⟩
  · rw [mem_ph hp] at q
    have q : ¬ ph c (t + (j : Nat)) ∈ gapsOf c v := by simpa using q
    have hlt : j < j0 := by
      rcases Nat.lt_or_ge j j0 with z | z
      · exact z
      · have : j = j0 := by omega
        subst this
        exact absurd (by rw [ej0]; exact hx) q
    refine js_one (js_augI 3 iop_add (o2_I0 (g := fun i j => i + j)) scGap.nd rfl je_int ⟨m - 1, by omega, j + 1, by omega, by omega, ?_, ?_⟩)
    · show [_, _, _, _] = [_, _, _, _]
      congr 4
      simp only [Sl.d.injEq, D.i.injEq]
      omega
    · rw [hgap]
      obtain ⟨m', rfl⟩ : ∃ m', m = m' + 1 := ⟨m - 1, by omega⟩
      show (if decide (ph c (t + (j : Nat)) ∈ gapsOf c v) = true then _ else _) = _
      rw [if_neg (by simpa using q)]
      simp only [Nat.add_sub_cancel]
      congr 1
      omega
  · rw [mem_ph hp] at q
    have q : ph c (t + (j : Nat)) ∈ gapsOf c v := by simpa using q
    refine js_one (js_ret (jv 3) ?_)
    show Sl.d _ = Sl.d _
    rw [hgap]
    obtain ⟨m', rfl⟩ : ∃ m', m = m' + 1 := ⟨m - 1, by omega⟩
    show _ = Sl.d (.i (if decide (ph c (t + (j : Nat)) ∈ gapsOf c v) = true then _ else _))
    rw [if_pos (by simpa using q)]
end
end LW
end

section
set_option Elab.async false
set_option linter.all false
set_option maxRecDepth 100000
set_option maxHeartbeats 4000000
/-! E3: above_touches, pushed, every_exchange, needs_of, every_lean, still_to_do, next_touch. -/
namespace LC
def exch (c : Clk) : List (Nat × Nat) := c.eds.zipIdx.flatMap fun p => (List.range p.1).map fun e => (p.2, e + 1)
def toDo (c : Clk) (s : List Nat) : List (Nat × Nat) := (exch c).filter fun x => decide (at_ s x.1 < x.2)
/-- the needs of an exchange, in the order they are found -/
def needs0 (c : Clk) (x : Nat × Nat) : List (Nat × Nat) := (if 1 < x.2 then [(x.1, x.2 - 1)] else []) ++ ((List.range c.eds.length).filter fun o => decide (o ≠ x.1) && (!(phasesOf c x.1 o).isEmpty && decide (0 < needed c x.1 x.2 o))).map fun o => (o, needed c x.1 x.2 o)
def key2 (x : Nat × Nat) : List Int := [(x.1 : Int), (x.2 : Int)]
theorem mem_zipIdx_at {l : List Nat} {p : Nat × Nat} (h : p ∈ l.zipIdx) : p.2 < l.length ∧ p.1 = at_ l p.2 := by
  have h1 := List.mem_zipIdx h
  simp only [Nat.zero_le, Nat.zero_add, Nat.sub_zero, true_and] at h1
  refine ⟨h1.1, ?_⟩
  unfold at_
  rw [List.getD_eq_getElem?_getD, List.getElem?_eq_getElem h1.1]
  exact h1.2
theorem mem_exch {c : Clk} {x : Nat × Nat} : x ∈ exch c ↔ x.1 < c.eds.length ∧ 1 ≤ x.2 ∧ x.2 ≤ at_ c.eds x.1 := by
  unfold exch
  rw [List.mem_flatMap]
  constructor
  · rintro ⟨p, hp, h⟩
    obtain ⟨e, he, rfl⟩ := List.mem_map.mp h
    obtain ⟨h1, h2⟩ := mem_zipIdx_at hp
    have := List.mem_range.mp he
    refine ⟨h1, by simp, ?_⟩
    show e + 1 ≤ at_ c.eds p.2
    omega
  · rintro ⟨h1, h2, h3⟩
    refine ⟨(at_ c.eds x.1, x.1), ?_, List.mem_map.mpr ⟨x.2 - 1, List.mem_range.mpr (by show _ < at_ c.eds x.1; omega), ?_⟩⟩
    · rw [List.mem_zipIdx_iff_getElem?]
      exact at_get h1
    · show (x.1, x.2 - 1 + 1) = x
      rw [Nat.sub_add_cancel h2]
theorem exch_len (c : Clk) : (exch c).length = c.eds.sum := by
  unfold exch
  rw [List.length_flatMap]
  congr 1
  rw [show (fun (p : Nat × Nat) => ((List.range p.1).map fun e => (p.2, e + 1)).length) = fun p => p.1 by funext p; rw [List.length_map, List.length_range]]
  exact List.zipIdx_map_fst 0 c.eds
end LC
namespace LW
open PySem PySem.Spec L2 DL LC
theorem ji_is {X : Cx} {K : PySem.W.Frag} {Γ : En} {tg e : Expr} {ds ds' : List D} (h : PI X tg e (tI K Γ ds)) (w : ds = ds') : PI X tg e (tI K Γ ds') := w ▸ h
theorem rng_nn (n : Nat) : nums (rng 0 n) = (List.range n).map eN := by
  unfold nums rng
  rw [List.map_map, show ((n : Int) - 0).toNat = n by omega]
  apply List.map_congr_left
  intro i _
  show D.i (0 + (i : Int)) = _
  rw [Int.zero_add]
  rfl
theorem rng_nn2 (m n : Nat) : nums (rng m n) = (List.range (n - m)).map fun i => eN (m + i) := by
  unfold nums rng
  rw [List.map_map, show ((n : Int) - (m : Int)).toNat = n - m by omega]
  apply List.map_congr_left
  intro i _
  rfl
theorem enumD_nn (l : List Nat) : enumD (nums (nn l)) = l.zipIdx.map fun p => .t [eN p.2, eN p.1] := by
  unfold enumD
  rw [nums_nn, List.zipIdx_map, List.map_map]
  rfl
section
variable {P : Program} {w : World} {K : PySem.W.Frag} {mg : Str → Option Value} {base : Heap} {f : Addr} {fd : FuncData}
abbrev psPhases : List Str := ["clock", "one", "other"]
abbrev sAbove : Stmt := topS 34
abbrev nAbove : List Str := ["clock", "one", "other", "tick", "phases", "found"]
theorem scAbove : FnScope nAbove ["clock", "one", "other", "tick"] (defScope sAbove) := ⟨rfl, rfl, rfl, by decide +kernel, rfl, by decide +kernel, by decide +kernel⟩
def pmAbove : Pm := ⟨Clk × Nat × Nat × Int, fun (c, i, j, t) => [.d (eC c), .d (eN i), .d (eN j), .d (.i t)], fun (c, i, j, t) => Good c ∧ phasesOf c i j ≠ [], fun (c, i, j, t) r => r = .d (.i (aboveT c i j t))⟩
theorem phases_lt {c : Clk} (hg : Good c) {i j p : Nat} (h : p ∈ phasesOf c i j) : p < c.per := by
  unfold phasesOf at h
  obtain ⟨t, ht, rfl⟩ := List.mem_map.mp h
  exact (hg.tv t (List.mem_filter.mp ht).1).1
theorem ok_above (F : Fun K "above_touches" "above_touches" sAbove f fd) (GP : Df P w K mg base 1 "phases_of" psPhases (pmPhases K)) : FnOk P w K mg base CX0 2 f fd ["clock", "one", "other", "tick"] (spP K pmAbove) := by
  refine fn_ok F scAbove (fun _ => rfl) (fun _ _ => by simp [pmAbove]) (by decide) fun cdv A outer s H E ⟨c, v, o, t⟩ hr ⟨hg, hv⟩ => ?_
  show PSs _ _ (tS K [.d (eC c), .d (eN v), .d (eN o), .d (.i t), .u, .u] _)
  have hp := hg.per0
  have hb : c.tch.length ≤ 1000 := by have := hg.tn; omega
  obtain ⟨x, hx⟩ := List.exists_mem_of_ne_nil _ hv
  obtain ⟨j0, hj0, ej0⟩ := ph_dn hp (t - 1) (phases_lt hg hx)
  refine js_cons (js_setF 4 scAbove.nd (jcF GP (c, v, o) hr (by decide) (ja_cons (jv 0) (ja_cons (jv 1) (ja_cons (jv 2) ja_nil))) hb fun r h => ⟨_, h, rfl⟩) fun cc hc => ?_)
  subst hc
  refine js_freeze 4 rfl (js_cons (js_set 5 scAbove.nd (jv 3) ?_))
  refine js_cons (js_while (fun m Γ' => ∃ j, m + j = c.per ∧ j ≤ j0 ∧ Γ' = [.d (eC c), .d (eN v), .d (eN o), .d (.i t), .p (plt K (nums (nn (phasesOf c v o)))), .d (.i (t - (j : Nat)))] ∧ aboveT c v o t = dn (fun t => decide (ph c (t - 1) ∈ phasesOf c v o)) m (t - (j : Nat))) PassesOwn.never c.per ⟨0, by omega, by omega, by simp; rfl, by simp [aboveT]⟩ ?_)
  rintro m Γ' ⟨j, hm, hj, rfl, hgap⟩
  refine ⟨_, jt_niL (je_mod (by show (0 : Int) < (c.per : Int); omega) (je_sub (jv 5) je_int) (je_ix (jv 0) je_int)) (je_pl (jvp 4)), fun q => ?_, fun q => ?_⟩
  · rw [mem_ph hp] at q
    have q : ¬ ph c (t - (j : Nat) - 1) ∈ phasesOf c v o := by simpa using q
    have hlt : j < j0 := by
      rcases Nat.lt_or_ge j j0 with z | z
      · exact z
      · have : j = j0 := by omega
        subst this
        exact absurd (by rw [show t - (j : Int) - 1 = t - 1 - (j : Int) by omega, ej0]; exact hx) q
    refine js_one (js_augI 5 iop_sub (o2_I0 (g := fun i j => i - j)) scAbove.nd rfl je_int ⟨m - 1, by omega, j + 1, by omega, by omega, ?_, ?_⟩)
    · show [_, _, _, _, _, _] = [_, _, _, _, _, _]
      congr 6
      simp only [Sl.d.injEq, D.i.injEq]
      omega
    · rw [hgap]
      obtain ⟨m', rfl⟩ : ∃ m', m = m' + 1 := ⟨m - 1, by omega⟩
      show (if decide (ph c (t - (j : Nat) - 1) ∈ phasesOf c v o) = true then _ else _) = _
      rw [if_neg (by simpa using q)]
      simp only [Nat.add_sub_cancel]
      congr 1
      omega
  · rw [mem_ph hp] at q
    have q : ph c (t - (j : Nat) - 1) ∈ phasesOf c v o := by simpa using q
    refine js_one (js_ret (jv 5) ?_)
    show Sl.d _ = Sl.d _
    rw [hgap]
    obtain ⟨m', rfl⟩ : ∃ m', m = m' + 1 := ⟨m - 1, by omega⟩
    show _ = Sl.d (.i (if decide (ph c (t - (j : Nat) - 1) ∈ phasesOf c v o) = true then _ else _))
    rw [if_pos (by simpa using q)]
abbrev sPushed : Stmt := topS 35
abbrev nPushed : List Str := ["clock", "exchange", "other", "tick"]
theorem scPushed : FnScope nPushed ["clock", "exchange", "other", "tick"] (defScope sPushed) := ⟨rfl, rfl, rfl, by decide +kernel, rfl, by decide +kernel, by decide +kernel⟩
def pmPushed : Pm := ⟨Clk × (Nat × Nat) × (Nat × Nat) × Int, fun (c, x, y, t) => [.d (eC c), .d (e2 x), .d (e2 y), .d (.i t)], fun (c, x, y, t) => Good c ∧ x.1 < c.eds.length ∧ (x.1 ≠ y.1 → phasesOf c x.1 y.1 ≠ []), fun (c, x, y, t) r => r = .d (.i (pushed c x y t))⟩
theorem ok_pushed (F : Fun K "pushed" "pushed" sPushed f fd) (GG : Df P w K mg base 1 "gap_from" ["clock", "wheel", "tick"] pmGap) (GA : Df P w K mg base 2 "above_touches" ["clock", "one", "other", "tick"] pmAbove) : FnOk P w K mg base CX0 3 f fd ["clock", "exchange", "other", "tick"] (spP K pmPushed) := by
  refine fn_ok F scPushed (fun _ => rfl) (fun _ _ => by simp [pmPushed]) (by decide) fun cdv A outer s H E ⟨c, x, y, t⟩ hr ⟨hg, h1, h2⟩ => ?_
  show PSs _ _ (tS K [.d (eC c), .d (e2 x), .d (e2 y), .d (.i t)] _)
  refine js_cons (js_if (jt_eqI (je_ix (jv 1) je_int) (je_ix (jv 2) je_int)) (fun q => ?_) (fun q => ?_))
  · refine js_one (js_ret (jc GG (c, x.1, t + 1) hr (by decide) (ja_cons (jv 0) (ja_cons (je_ix (jv 1) je_int) (ja_cons (je_add (jv 3) je_int) ja_nil))) ⟨hg, h1⟩ fun r h => h) ?_)
    show Sl.d _ = Sl.d _
    have q : (x.1 : Int) = y.1 := of_decide_eq_true q
    unfold pushed
    rw [if_pos (by omega)]
  · have q : ¬ (x.1 : Int) = y.1 := of_decide_eq_false q
    have q' : x.1 ≠ y.1 := by omega
    refine js_nil (js_one (js_ret (jc GG (c, x.1, aboveT c x.1 y.1 t) hr (by decide) (ja_cons (jv 0) (ja_cons (je_ix (jv 1) je_int) (ja_cons (jc GA (c, x.1, y.1, t) hr (by decide) (ja_cons (jv 0) (ja_cons (je_ix (jv 1) je_int) (ja_cons (je_ix (jv 2) je_int) (ja_cons (jv 3) ja_nil)))) ⟨hg, h2 q'⟩ fun r h => h) ja_nil))) ⟨hg, h1⟩ fun r h => h) ?_))
    show Sl.d _ = Sl.d _
    unfold pushed
    rw [if_neg q']
/-! ### every_exchange -/
abbrev sExch : Stmt := topS 23
abbrev nExch : List Str := ["clock", "wheel", "last", "edition"]
theorem scExch : FnScope nExch ["clock"] (defScope sExch) := ⟨rfl, rfl, rfl, by decide +kernel, rfl, by decide +kernel, by decide +kernel⟩
def pmExch (K : PySem.W.Frag) : Pm := ⟨Clk, fun c => [.d (eC c)], fun c => Good c, fun c r => r = .o (cl K ((exch c).map e2))⟩
theorem mem_sum_le : ∀ {l : List Nat} {x : Nat}, x ∈ l → x ≤ l.sum
  | y :: l, x, h => by
    rw [List.sum_cons]
    rcases List.mem_cons.mp h with e | h
    · omega
    · have := mem_sum_le h
      omega
theorem zip_le {c : Clk} (hg : Good c) {p : Nat × Nat} (h : p ∈ c.eds.zipIdx) : p.1 ≤ 2 ∧ p.2 < c.eds.length := by
  obtain ⟨h1, h2⟩ := mem_zipIdx_at h
  refine ⟨hg.ed _ ?_, h1⟩
  rw [h2]
  exact List.mem_of_getElem? (at_get h1)
theorem ok_exch (F : Fun K "every_exchange" "every_exchange" sExch f fd) (men : mg "enumerate" = none) (mra : mg "range" = none) : FnOk P w K mg base CX0 1 f fd ["clock"] (spP K (pmExch K)) := by
  refine fn_ok F scExch (fun _ => rfl) (fun _ _ => by simp [pmExch]) (by decide) fun cdv A outer s H E (c : Clk) hr (hg : Good c) => ?_
  show PSs _ _ (tS K [.d (eC c), .u, .u, .u] _)
  refine js_one (js_retF (je_lc2 (xs := c.eds.zipIdx) (ys := fun p => List.range p.1) (enc := fun p => .t [eN p.2, eN p.1]) (enc1 := fun _ e => eN (1 + e)) (f := fun p e => .t [eN p.2, eN (1 + e)]) (pb := fun _ _ => true) (Γe := fun p => [.d (eC c), .d (eN p.2), .d (eN p.1), .u]) (Γf := fun p e => [.d (eC c), .d (eN p.2), .d (eN p.1), .d (eN (1 + e))]) [("wheel", 1), ("last", 2), ("edition", 3)] [3] rfl scExch.nd
    (ji_is (ji_enumT men (je_ix (jv 0) je_int)) (enumD_nn _)) (blkOk_by (N := nExch) (sc := defScope sExch) (by decide +kernel)) (by decide) (tg_names [1, 2]) (by decide) rfl (fun p _ => rfl) (tg_name 3) (by decide) (fun _ _ => rfl) (fun _ _ _ _ => rfl) ?_
    (fun _ _ _ _ _ => pg_tup rfl (pgs_cons (pg_name scExch.nd rfl (Or.inl rfl)) (pgs_cons (pg_name scExch.nd rfl (Or.inl rfl)) pgs_nil))) (fun p hp s H C cl fp => ji_is (ji_range2 mra je_int (je_add (jv 2) je_int) (by have := (zip_le hg hp).1; omega)) (by
      have e := rng_nn2 1 (p.1 + 1)
      rw [Nat.add_sub_cancel] at e
      exact e)) (fun _ _ _ _ _ => pg_name scExch.nd rfl (Or.inl rfl)) (fun _ _ _ _ _ _ _ _ _ => jts_nil) (fun p hp e he _ s H C cl fp => je_tup (ds := [eN p.2, eN (1 + e)]) (ja_cons (jv 1) (ja_cons (jv 3) ja_nil)))) fun cc hc => ?_)
  · refine Nat.le_trans (Nat.le_of_eq ?_) (show c.eds.sum ≤ 100000 by have := hg.sum; omega)
    rw [← exch_len c]
    unfold exch
    rw [List.length_flatMap, List.length_flatMap]
    congr 1
    apply List.map_congr_left
    intro p _
    show ((List.filter (fun _ => true) (List.range p.1)).map _).length = ((List.range p.1).map _).length
    rw [List.length_map, List.length_map, List.filter_eq_self.mpr (fun _ _ => rfl)]
  · subst hc
    show Sl.o _ = Sl.o _
    congr 2
    unfold exch
    rw [List.map_flatMap]
    congr 1
    funext p
    rw [List.map_map, List.filter_eq_self.mpr (fun _ _ => rfl)]
    apply List.map_congr_left
    intro e _
    show D.t [_, eN (1 + e)] = D.t [_, eN (e + 1)]
    rw [Nat.add_comm]
end
end LW
end

section
set_option Elab.async false
set_option linter.all false
set_option maxRecDepth 100000
set_option maxHeartbeats 2000000
/-! D7: lending, hiding, pairs, any of several, changed arguments. -/
namespace DL
open PySem PySem.Spec L2
section
variable {K : PySem.W.Frag} {H H' H0 : Hp} {σ σ' : St} {Γ Γ' : En} {a b : Addr} {o ob : HO} {Z Z' : Hd} {i : Nat} {c : Ct}
/-! ### a new cell, hidden; taken into a slot -/
theorem Ok.hideN (k : Ok K H0 Z σ Γ H) (n : Nx K Z σ Γ H H') (fr : H a = none) (ha : H' a = some ob) (mu : Im ob = false ∧ NT ob = true) : Ok K H0 (fun b => Z b ∨ b = a) σ Γ H' := by
  have na : ∀ {b o}, minus Z σ Γ H b = some o → b ≠ a := fun {b o} e z => by
    rw [z] at e
    rw [(minus_some e).1] at fr
    cases fr
  have ow : ∀ b, Own (fun b => Z b ∨ b = a) σ Γ b → b = a ∨ Own Z σ Γ b := by
    rintro b ((z | z) | z)
    · exact .inr (.inl z)
    · exact .inl z
    · exact .inr (.inr z)
  have kp : Keep (minus Z σ Γ H) (minus (fun b => Z b ∨ b = a) σ Γ H') := by
    refine ⟨fun b o e q => ?_, fun b ps e => ?_⟩
    · obtain ⟨e1, e2⟩ := minus_some (n.kp.obj b o e q)
      exact minus_of e1 fun z => (ow b z).elim (na e) e2
    · obtain ⟨ps', e', t⟩ := n.kp.tab b ps e
      obtain ⟨e1, e2⟩ := minus_some e'
      exact ⟨ps', minus_of e1 fun z => (ow b z).elim (na e) e2, t⟩
  have tk : TK (minus Z σ Γ H') (minus (fun b => Z b ∨ b = a) σ Γ H') := fun b o e h => by
    obtain ⟨e1, e2⟩ := minus_some e
    refine minus_of e1 fun z => (ow b z).elim (fun z => ?_) e2
    rw [z, ha] at e1
    cases e1
    rw [mu.1] at h
    cases h
  have noa : ∀ {i : Nat} {c : Ct}, Γ[i]? = some (.o c) → σ[i]? = some (some (.ref a)) → False := fun {i c} h1 h2 => by
    obtain ⟨o, e⟩ := k.own_some (.inr ⟨i, c, h1, h2⟩)
    rw [fr] at e
    cases e
  refine ⟨⟨k.len, fun i s h => ?_, k.dist, fun b z => ?_, fun i c b h1 h2 z => ?_, fun P hP => kp.tabG (k.tb P hP)⟩, k.base.trans kp⟩
  · obtain ⟨v, e1, q⟩ := k.sl i s h
    obtain ⟨v', e1', q'⟩ := n.ok.sl i s h
    rw [e1] at e1'
    cases e1'
    refine ⟨v, e1, ?_⟩
    cases s with
    | u => trivial
    | d d =>
      obtain ⟨x, e2, q⟩ := q
      exact ⟨x, e2, q.k kp.tk⟩
    | p p =>
      obtain ⟨x, e2, q⟩ := q
      exact ⟨x, e2, p.mono _ _ _ kp q⟩
    | o c =>
      obtain ⟨x, ob, e2, e3, q⟩ := q'
      exact ⟨x, ob, e2, e3, c.mono _ _ _ _ tk q⟩
  · rcases z with z | z
    · exact n.ok.zo b z
    · subst z
      exact ⟨ob, ha, mu⟩
  · rcases z with z | z
    · exact k.zd i c b h1 h2 z
    · subst z
      exact noa h1 h2
theorem Ok.take (k : Ok K H0 (fun b => Z b ∨ b = a) σ Γ H) (nz : ¬ Z a) (hl : i < σ.length) (ha : H a = some ob) (hc : c.on a ob (minus (fun b => Z b ∨ b = a) σ Γ H)) : Ok K H0 Z (σ.set i (some (.ref a))) (Γ.set i (.o c)) H := by
  have hlt : i < Γ.length := by rw [← k.len]; exact hl
  have ow : ∀ b, Own Z (σ.set i (some (.ref a))) (Γ.set i (.o c)) b → Own (fun b => Z b ∨ b = a) σ Γ b := by
    rintro b (z | ⟨j, e, h1, h2⟩)
    · exact .inl (.inl z)
    · by_cases hj : i = j
      · subst hj
        rw [List.getElem?_set_self hl] at h2
        cases h2
        exact .inl (.inr rfl)
      · rw [List.getElem?_set_ne hj] at h1 h2
        exact .inr ⟨j, e, h1, h2⟩
  have kp : Keep (minus (fun b => Z b ∨ b = a) σ Γ H) (minus Z (σ.set i (some (.ref a))) (Γ.set i (.o c)) H) := minus_less ow
  have key : ∀ {j d b}, (Γ.set i (.o c))[j]? = some (.o d) → (σ.set i (some (.ref a)))[j]? = some (some (.ref b)) → (j = i ∧ b = a) ∨ (i ≠ j ∧ Γ[j]? = some (.o d) ∧ σ[j]? = some (some (.ref b))) := fun {j d b} h1 h2 => by
    by_cases hj : i = j
    · subst hj
      rw [List.getElem?_set_self hl] at h2
      cases h2
      exact .inl ⟨rfl, rfl⟩
    · rw [List.getElem?_set_ne hj] at h1 h2
      exact .inr ⟨hj, h1, h2⟩
  refine ⟨⟨by rw [List.length_set, List.length_set]; exact k.len, fun j t e => ?_, fun j l d d' b e1 e2 e3 e4 => ?_, fun b z => k.zo b (.inl z), fun j d b e1 e2 z => ?_, fun P hP => kp.tabG (k.tb P hP)⟩, k.base.trans kp⟩
  · by_cases hj : i = j
    · subst hj
      rw [List.getElem?_set_self hlt] at e
      cases e
      exact ⟨_, by rw [List.getElem?_set_self hl], a, ob, rfl, ha, c.mono _ _ _ _ kp.tk hc⟩
    · rw [List.getElem?_set_ne hj] at e ⊢
      obtain ⟨w, e1, q⟩ := k.sl j t e
      refine ⟨w, e1, ?_⟩
      cases t with
      | u => trivial
      | d d =>
        obtain ⟨x, e2, q⟩ := q
        exact ⟨x, e2, q.k kp.tk⟩
      | p p =>
        obtain ⟨x, e2, q⟩ := q
        exact ⟨x, e2, p.mono _ _ _ kp q⟩
      | o c =>
        obtain ⟨x, ob, e2, e3, q⟩ := q
        exact ⟨x, ob, e2, e3, c.mono _ _ _ _ kp.tk q⟩
  · rcases key e1 e3 with ⟨q1, q2⟩ | ⟨q1, q2, q3⟩
    · rcases key e2 e4 with ⟨p1, p2⟩ | ⟨p1, p2, p3⟩
      · rw [q1, p1]
      · exact absurd (.inr q2) (k.zd l _ b p2 p3)
    · rcases key e2 e4 with ⟨p1, p2⟩ | ⟨p1, p2, p3⟩
      · exact absurd (.inr p2) (k.zd j _ b q2 q3)
      · exact k.dist j l _ _ b q2 p2 q3 p3
  · rcases key e1 e2 with ⟨q1, q2⟩ | ⟨q1, q2, q3⟩
    · rw [q2] at z
      exact nz z
    · exact k.zd j d b q2 q3 (.inl z)

/-! ### an owned cell, lent -/
def Lend (c : Ct) (q : Ps) : Prop := ∀ (a : Addr) (ob : HO) (B B' : Hp), c.on a ob B → TK B B' → B' a = some ob → q.phi B' (.ref a)
theorem lend_cl {ds : List D} : Lend (cl K ds) (plt K ds) := fun a ob B B' ⟨vs, e, h⟩ k ha => ⟨a, vs, rfl, by rw [ha, e], h.k k⟩
theorem lend_pl {ds : List D} : Lend (cl K ds) (pl K ds) := fun a ob B B' ⟨vs, e, h⟩ k ha => ⟨a, vs, rfl, SqL.of (by rw [ha, e]), h.k k⟩
theorem lend_less {q : Ps} (hv : Γ[i]? = some (.o c)) : ∀ b, Own Z σ (Γ.set i (.p q)) b → Own Z σ Γ b ∧ ∀ (a : Addr), OkS K Z σ Γ H → σ[i]? = some (some (.ref a)) → b ≠ a := by
  have hl : i < Γ.length := (List.getElem?_eq_some_iff.mp hv).1
  rintro b (z | ⟨j, c, h1, h2⟩)
  · exact ⟨.inl z, fun a k e1 e => k.zd i _ a hv e1 (by rw [← e]; exact z)⟩
  · by_cases hj : i = j
    · subst hj
      rw [List.getElem?_set_self hl] at h1
      cases h1
    · rw [List.getElem?_set_ne hj] at h1
      exact ⟨.inr ⟨j, c, h1, h2⟩, fun a k e1 e => hj (k.dist i j _ c a hv h1 e1 (by rw [h2, e]))⟩
theorem OkS.lend {q : Ps} (k : OkS K Z σ Γ H) (hv : Γ[i]? = some (.o c)) (L : Lend c q) : OkS K Z σ (Γ.set i (.p q)) H ∧ Keep (minus Z σ Γ H) (minus Z σ (Γ.set i (.p q)) H) := by
  have hl : i < Γ.length := (List.getElem?_eq_some_iff.mp hv).1
  obtain ⟨v, e1, a, ob, e2, e3, e4⟩ := k.sl i _ hv
  subst e2
  have kp : Keep (minus Z σ Γ H) (minus Z σ (Γ.set i (.p q)) H) := minus_less fun b z => (lend_less (K := K) (H := H) hv b z).1
  refine ⟨⟨by rw [List.length_set]; exact k.len, fun j t e => ?_, fun j l c c' b h1 h2 h3 h4 => ?_, k.zo, fun j c b h1 h2 => ?_, fun P hP => kp.tabG (k.tb P hP)⟩, kp⟩
  · by_cases hj : i = j
    · subst hj
      rw [List.getElem?_set_self hl] at e
      cases e
      exact ⟨_, e1, _, rfl, L a ob _ _ e4 kp.tk (minus_of e3 fun z => (lend_less (K := K) (H := H) hv a z).2 a k e1 rfl)⟩
    · rw [List.getElem?_set_ne hj] at e
      obtain ⟨w, f1, q⟩ := k.sl j t e
      refine ⟨w, f1, ?_⟩
      cases t with
      | u => trivial
      | d d =>
        obtain ⟨x, f2, q⟩ := q
        exact ⟨x, f2, q.k kp.tk⟩
      | p p =>
        obtain ⟨x, f2, q⟩ := q
        exact ⟨x, f2, p.mono _ _ _ kp q⟩
      | o c =>
        obtain ⟨x, ob, f2, f3, q⟩ := q
        exact ⟨x, ob, f2, f3, c.mono _ _ _ _ kp.tk q⟩
  · have back : ∀ {j : Nat} {d : Ct}, (Γ.set i (.p q))[j]? = some (.o d) → Γ[j]? = some (.o d) := fun {j d} e => by
      by_cases hj : i = j
      · subst hj
        rw [List.getElem?_set_self hl] at e
        cases e
      · rw [List.getElem?_set_ne hj] at e
        exact e
    exact k.dist j l c c' b (back h1) (back h2) h3 h4
  · by_cases hj : i = j
    · subst hj
      rw [List.getElem?_set_self hl] at h1
      cases h1
    · rw [List.getElem?_set_ne hj] at h1
      exact k.zd j c b h1 h2
theorem Nx.back {q : Ps} (k : OkS K Z σ Γ H) (hv : Γ[i]? = some (.o c)) (n : Nx K Z σ (Γ.set i (.p q)) H H') : Nx K Z σ Γ H H' ∧ TK (minus Z σ (Γ.set i (.p q)) H') (minus Z σ Γ H') := by
  have hl : i < Γ.length := (List.getElem?_eq_some_iff.mp hv).1
  obtain ⟨v, e1, a, ob, e2, e3, e4⟩ := k.sl i _ hv
  subst e2
  have hob : minus Z σ (Γ.set i (.p q)) H' a = some ob := n.kp.obj a ob (minus_of e3 fun z => (lend_less (K := K) (H := H) hv a z).2 a k e1 rfl) (c.mu _ _ _ e4).2
  have o1 : ∀ c, Own Z σ Γ c ↔ (c = a ∨ Own Z σ (Γ.set i (.p q)) c) := by
    intro c
    constructor
    · rintro (z | ⟨j, cc, z1, z2⟩)
      · exact .inr (.inl z)
      · by_cases hj : i = j
        · subst hj
          rw [e1] at z2
          cases z2
          exact .inl rfl
        · exact .inr (.inr ⟨j, cc, by rw [List.getElem?_set_ne hj]; exact z1, z2⟩)
    · rintro (z | z)
      · rw [z]
        exact .inr ⟨i, _, hv, e1⟩
      · exact (lend_less (K := K) (H := H) hv c z).1
  have na : ∀ {c o}, minus Z σ Γ H c = some o → c ≠ a := fun {c o} z y => (minus_some z).2 ((o1 c).mpr (.inl y))
  have kp : Keep (minus Z σ Γ H) (minus Z σ Γ H') := by
    refine ⟨fun c o z y => ?_, fun c ps z => ?_⟩
    · have z1 := n.kp.obj c o (minus_of (minus_some z).1 fun y => (minus_some z).2 ((o1 c).mpr (.inr y))) y
      obtain ⟨z2, z3⟩ := minus_some z1
      exact minus_of z2 fun y => ((o1 c).mp y).elim (na z) z3
    · obtain ⟨ps', z1, t1⟩ := n.kp.tab c ps (minus_of (minus_some z).1 fun y => (minus_some z).2 ((o1 c).mpr (.inr y)))
      obtain ⟨z2, z3⟩ := minus_some z1
      exact ⟨ps', minus_of z2 fun y => ((o1 c).mp y).elim (na z) z3, t1⟩
  have tk : TK (minus Z σ (Γ.set i (.p q)) H') (minus Z σ Γ H') := fun c' o z y => by
    obtain ⟨z2, z3⟩ := minus_some z
    refine minus_of z2 fun w => ((o1 c').mp w).elim (fun w => ?_) z3
    rw [w, (minus_some hob).1] at z2
    cases z2
    rw [(c.mu _ _ _ e4).1] at y
    cases y
  refine ⟨⟨⟨k.len, fun j t z => ?_, k.dist, n.ok.zo, k.zd, fun P hP => kp.tabG (k.tb P hP)⟩, kp, n.fr, n.zs⟩, tk⟩
  obtain ⟨w, z1, z2⟩ := k.sl j t z
  refine ⟨w, z1, ?_⟩
  cases t with
  | u => trivial
  | d d =>
    obtain ⟨y, y1, y2⟩ := z2
    exact ⟨y, y1, y2.k kp.tk⟩
  | p p =>
    obtain ⟨y, y1, y2⟩ := z2
    exact ⟨y, y1, p.mono _ _ _ kp y2⟩
  | o c2 =>
    by_cases hj : i = j
    · subst hj
      rw [hv] at z
      cases z
      rw [e1] at z1
      cases z1
      exact ⟨a, _, rfl, (minus_some hob).1, c.mono _ _ _ _ kp.tk e4⟩
    · obtain ⟨w2, z3, y, ob2, y1, y2, y3⟩ := n.ok.sl j (.o c2) (by rw [List.getElem?_set_ne hj]; exact z)
      rw [z1] at z3
      cases z3
      exact ⟨y, ob2, y1, y2, c2.mono _ _ _ _ tk y3⟩
end
section
variable {X : Cx} {K : PySem.W.Frag} {Γ Γ' : En} {a b e : Expr} {es : List Expr} {pos p p' : Pos} {s s1 s2 : Sl} {d : D} {ds : List D} {ss : List Sl} {Φ Ψ : Out → Prop} {i j : Nat} {c : Ct} {q : Ps}
/-- e read, the owned cell in slot i lent -/
theorem je_lend (i : Nat) (L : Lend c q) (h : PE X e (tR K (Γ.set i (.p q)) (.d d))) (hv : Γ[i]? = some (.o c) := by rfl) : PE X e (tR K Γ (.d d)) :=
  pe_imp h fun σ H Q ⟨Z, k, w⟩ => ⟨Z, (k.lend hv L).1, fun v H' n r => let ⟨n', tk⟩ := Nx.back k hv n; w v H' n' (Dn.k r tk)⟩
theorem jt_lend {x : Bool} (i : Nat) (L : Lend c q) (h : PT X e (tT K (Γ.set i (.p q)) x)) (hv : Γ[i]? = some (.o c) := by rfl) : PT X e (tT K Γ x) :=
  pt_imp h fun σ H Q ⟨Z, k, w⟩ => ⟨Z, (k.lend hv L).1, fun H' n => w H' (Nx.back k hv n).1⟩
theorem je_lendF {P : Ct → Prop} (i : Nat) (L : Lend c q) (h : PE X e (tF K (Γ.set i (.p q)) P)) (hv : Γ[i]? = some (.o c) := by rfl) : PE X e (tF K Γ P) :=
  pe_imp h fun σ H Q ⟨Z, k, w⟩ => ⟨Z, (k.lend hv L).1, fun cc aa ob H' hP n fr ha on => w cc aa ob H' hP (Nx.back k hv n).1 fr ha on⟩
/-- an owned cell read on, for good -/
theorem ok_freezeP {H0 H : Hp} {Z : Hd} {σ : St} (k : Ok K H0 Z σ Γ H) (hv : Γ[i]? = some (.o c)) (L : Lend c q) : Ok K H0 Z σ (Γ.set i (.p q)) H := let ⟨k1, kp⟩ := k.toOkS.lend hv L; ⟨k1, k.base.trans kp⟩
theorem js_freezeP {rest : List Stmt} (i : Nat) (L : Lend c q) (r : PSs X rest (tS X.K (Γ.set i (.p q)) Φ)) (h : Γ[i]? = some (.o c) := by rfl) : PSs X rest (tS X.K Γ Φ) := js_weak r fun _ _ _ k => ok_freezeP k h L

/-! ### one of several: data, a thing that stays, a new cell -/
def RetU (K : PySem.W.Frag) (B H H' : Hp) : Sl → V → Prop
  | .u, _ => True
  | .d d, v => Dn K B d v
  | .p p, v => p.phi B v
  | .o c, v => ∃ a ob, v = .ref a ∧ H a = none ∧ H' a = some ob ∧ c.on a ob H'
def tU (K : PySem.W.Frag) (Γ : En) (P : Sl → Prop) : TE := fun σ H Q => ∃ Z, OkS K Z σ Γ H ∧ ∀ s v H', P s → Nx K Z σ Γ H H' → RetU K (minus Z σ Γ H') H H' s v → Q v H'
/-- some data; a slot's worth of it -/
inductive SD (P : D → Prop) : Sl → Prop where
  | mk (d : D) (h : P d) : SD P (.d d)
inductive SF (P : Ct → Prop) : Sl → Prop where
  | mk (c : Ct) (h : P c) : SF P (.o c)
theorem ju_d (h : PE X e (tR K Γ (.d d))) : PE X e (tU K Γ (SD (· = d))) := pe_imp h fun σ H Q ⟨Z, k, w⟩ => ⟨Z, k, fun v H' n r => w (.d d) v H' ⟨d, rfl⟩ n r⟩
theorem ju_n {P : D → Prop} (h : PE X e (tN K Γ P)) : PE X e (tU K Γ (SD P)) := pe_imp h fun σ H Q ⟨Z, k, w⟩ => ⟨Z, k, fun d v H' hp n r => w (.d d) v H' ⟨d, hp⟩ n r⟩
theorem ju_f {P : Ct → Prop} (h : PE X e (tF K Γ P)) : PE X e (tU K Γ (SF P)) := pe_imp h fun σ H Q ⟨Z, k, w⟩ => ⟨Z, k, fun c a ob H' hp n fr ha on => w (.o c) _ H' ⟨c, hp⟩ n ⟨a, ob, rfl, fr, ha, on⟩⟩
theorem jn_d (h : PE X e (tR K Γ (.d d))) : PE X e (tN K Γ (· = d)) := pe_imp h fun σ H Q ⟨Z, k, w⟩ => ⟨Z, k, fun v H' n r => w d v H' rfl n r⟩
theorem jn_imp {P P' : D → Prop} (h : PE X e (tN K Γ P)) (hp : ∀ d, P d → P' d) : PE X e (tN K Γ P') := pe_imp h fun σ H Q ⟨Z, k, w⟩ => ⟨Z, k, fun d v H' z n r => w d v H' (hp d z) n r⟩
/-- a value goes into slot i, behind an expression -/
theorem ok_ret {H0 H H' : Hp} {Z : Hd} {σ : St} {v : V} (k : Ok K H0 Z σ Γ H) (n : Nx K Z σ Γ H H') (hl : i < Γ.length) (r : RetU K (minus Z σ Γ H') H H' s v) : Ok K H0 Z (σ.set i (some v)) (Γ.set i s) H' := by
  have hl' : i < σ.length := by rw [k.len]; exact hl
  cases s with
  | u => exact (k.nx n).setN hl' (fun c => by simp) trivial
  | d d => exact (k.nx n).setN hl' (fun c => by simp) ⟨v, rfl, r⟩
  | p p => exact (k.nx n).setN hl' (fun c => by simp) ⟨v, rfl, r⟩
  | o c =>
    obtain ⟨a, ob, e, fr, ha, on⟩ := r
    subst e
    exact k.setO n hl' fr ha on
theorem js_setU {P : Sl → Prop} {x : Str} (i : Nat) (hN : X.N.Nodup) (he : PE X e (tU X.K Γ P)) (h : ∀ s, P s → Ψ (.nx (Γ.set i s))) (hi : X.N[i]? = some x := by rfl) (hx : Loc X.env.scope x := by first | exact Or.inl rfl | exact Or.inr rfl) (hl : i < Γ.length := by simp) (hsw : swapsWith e (some (.Name x p')) pos.line X.env = pure false := by rfl)
    (hf : X.fn x = true ∨ X.env.scope.names.lookup x = some .local := by first | exact .inl rfl | exact .inr rfl) : PS X (.Assign [.Name x p'] e pos) (tS X.K Γ Ψ) :=
  ps_imp (ps_set hN hi hx he hsw hf) fun D σ H ⟨H0, ok, h1, h2, h3⟩ => ⟨noZ, ok.toOkS, fun s v H' hp n r => h1 _ _ _ (h s hp) (ok_ret ok n hl r)⟩
theorem js_retU {P : Sl → Prop} (he : PE X e (tU X.K Γ P)) (h : ∀ s, P s → Ψ (.rt Γ s)) : PS X (.Return (some e) pos) (tS X.K Γ Ψ) :=
  ps_imp (ps_ret he) fun D σ H ⟨H0, ok, _, h2, _⟩ => ⟨noZ, ok.toOkS, fun s v H' hp n r => h2 _ _ _ _ v (h s hp) (ok.nx n) (by
    cases s with
    | u => trivial
    | d d => exact Dn.k r minus_keep.tk
    | p p => exact p.mono _ _ _ minus_keep r
    | o c =>
      obtain ⟨a, ob, e, fr, ha, on⟩ := r
      refine ⟨a, ob, e, ok.base.free ?_, ha, on⟩
      cases q : minus noZ σ Γ H a with
      | none => rfl
      | some o =>
        rw [(minus_some q).1] at fr
        cases fr)⟩
/-- x, y = a, b -/
theorem js_par {P1 P2 : Sl → Prop} {x y : Str} {px py pt : Pos} {kt k2 : Nat} {pt2 : Pos} (i j : Nat) (hc : X.calm = true) (hN : X.N.Nodup) (ha : PE X a (tU X.K Γ P1)) (hb : PE X b (tU X.K Γ P2)) (h : ∀ s1 s2, P1 s1 → P2 s2 → Ψ (.nx ((Γ.set i s1).set j s2))) (hij : i ≠ j := by decide) (hi : X.N[i]? = some x := by rfl) (hj : X.N[j]? = some y := by rfl)
    (hx : X.env.scope.names.lookup x = some .local := by rfl) (hy : X.env.scope.names.lookup y = some .local := by rfl) (hl : i < Γ.length := by simp) (hl2 : j < Γ.length := by simp)
    (hw : swappedStores [.Tuple [.Name x px, .Name y py] kt pt] (.Tuple [a, b] k2 pt2) X.env = pure (some [x, y]) := by rfl)
    (hs : swapsWithSole [.Tuple [.Name x px, .Name y py] kt pt] (.Tuple [a, b] k2 pt2) pos.line X.env = pure false := by rfl) (he : starEach [a, b] X.env = (false, eval a X.env) :: starEach [b] X.env := by rfl) (he2 : starEach [b] X.env = (false, eval b X.env) :: starEach [] X.env := by rfl) :
    PS X (.Assign [.Tuple [.Name x px, .Name y py] kt pt] (.Tuple [a, b] k2 pt2) pos) (tS X.K Γ Ψ) :=
  ps_imp (ps_par hc hN hi hj hij hx hy (pa_cons ha (pa_cons hb pa_nil he2) he) hw hs) fun D σ H ⟨H0, ok, h1, h2, h3⟩ => by
    refine ⟨noZ, ok.toOkS, fun s1 v1 H1 hp1 n1 r1 => ?_⟩
    have li : i < σ.length := by rw [ok.len]; exact hl
    cases s1 with
    | o c1 =>
      obtain ⟨a1, ob, e, fr, ha1, on⟩ := r1
      subst e
      have mu := c1.mu _ _ _ on
      have k1 := ok.hideN n1 fr ha1 mu
      refine ⟨_, k1.toOkS, fun s2 v2 H2 hp2 n2 r2 => ⟨_, v2, rfl, ?_⟩⟩
      have hz : H2 a1 = some ob := by rw [n2.zs a1 (.inr rfl)]; exact ha1
      have k2 : Ok X.K H0 (fun b => noZ b ∨ b = a1) (σ.set j (some v2)) (Γ.set j s2) H2 := ok_ret k1 n2 hl2 r2
      have on2 : c1.on a1 ob (minus (fun b => noZ b ∨ b = a1) (σ.set j (some v2)) (Γ.set j s2) H2) := by
        have q1 : TK H1 (minus (fun b => noZ b ∨ b = a1) σ Γ H1) := k1.toOkS.tk
        have q2 : TK H2 (minus (fun b => noZ b ∨ b = a1) (σ.set j (some v2)) (Γ.set j s2) H2) := k2.toOkS.tk
        exact c1.mono _ _ _ _ (q1.trans (n2.kp.tk.trans (minus_keep.tk.trans q2))) on
      have k3 := k2.take (i := i) (c := c1) (fun z => z) (by rw [List.length_set]; exact li) hz on2
      rw [List.set_comm _ _ (Ne.symm hij), List.set_comm _ _ (Ne.symm hij)] at k3
      exact h1 _ _ _ (h _ _ hp1 hp2) k3
    | u =>
      refine ⟨noZ, n1.ok, fun s2 v2 H2 hp2 n2 r2 => ⟨_, v2, rfl, ?_⟩⟩
      have k2 := ok_ret (ok.nx n1) n2 hl2 r2
      have k3 := k2.setN (i := i) (s := .u) (v := some v1) (by rw [List.length_set]; exact li) (fun c => by simp) trivial
      rw [List.set_comm _ _ (Ne.symm hij), List.set_comm _ _ (Ne.symm hij)] at k3
      exact h1 _ _ _ (h _ _ hp1 hp2) k3
    | d d =>
      refine ⟨noZ, n1.ok, fun s2 v2 H2 hp2 n2 r2 => ⟨_, v2, rfl, ?_⟩⟩
      have k2 := ok_ret (ok.nx n1) n2 hl2 r2
      have r3 : Dn X.K H2 d v1 := Dn.k (Dn.k r1 n2.kp.tk) minus_keep.tk
      have k3 := k2.setN (i := i) (s := .d d) (v := some v1) (by rw [List.length_set]; exact li) (fun c => by simp) ⟨v1, rfl, r3.k k2.toOkS.tk⟩
      rw [List.set_comm _ _ (Ne.symm hij), List.set_comm _ _ (Ne.symm hij)] at k3
      exact h1 _ _ _ (h _ _ hp1 hp2) k3
    | p q =>
      refine ⟨noZ, n1.ok, fun s2 v2 H2 hp2 n2 r2 => ⟨_, v2, rfl, ?_⟩⟩
      have k0 : Ok X.K H0 noZ (σ.set i (some v1)) (Γ.set i (.p q)) H1 := ok_ret ok n1 hl r1
      have k2 := ok_ret (ok.nx n1) n2 hl2 r2
      have kp : Keep (minus noZ σ Γ H1) (minus noZ (σ.set j (some v2)) (Γ.set j s2) H2) := by
        have k5 : Ok X.K (minus noZ σ Γ H1) noZ σ Γ H1 := ⟨n1.ok, Keep.refl _⟩
        exact (ok_ret k5 n2 hl2 r2).base
      have k3 := k2.setN (i := i) (s := .p q) (v := some v1) (by rw [List.length_set]; exact li) (fun c => by simp) ⟨v1, rfl, q.mono _ _ _ kp r1⟩
      rw [List.set_comm _ _ (Ne.symm hij), List.set_comm _ _ (Ne.symm hij)] at k3
      exact h1 _ _ _ (h _ _ hp1 hp2) k3
end
end DL
end

section
set_option Elab.async false
set_option linter.all false
set_option maxRecDepth 100000
set_option maxHeartbeats 2000000
/-! D8: defs that change their first argument's cell; expressions of which one of several comes. -/
namespace DL
open PySem PySem.Spec L2
/-- all but the object at a -/
def rm (a : Addr) (H : Hp) : Hp := fun b => if b = a then none else H b
section
variable {K : PySem.W.Frag} {H H' H0 : Hp} {σ σ' : St} {Γ Γ' : En} {a b : Addr} {o ob : HO} {Z Z' : Hd} {i : Nat} {c : Ct}
theorem rm_ne (h : b ≠ a) : rm a H b = H b := by unfold rm; rw [if_neg h]
theorem rm_self : rm a H a = none := by unfold rm; rw [if_pos rfl]
theorem rm_some (h : rm a H b = some o) : b ≠ a ∧ H b = some o := by
  unfold rm at h
  split at h
  · cases h
  · exact ⟨by assumption, h⟩
theorem rm_keep : Keep (rm a H) H := ⟨fun _ _ e _ => (rm_some e).2, fun _ ps e => ⟨ps, (rm_some e).2, id⟩⟩
theorem rm_upd (h : H a = some ob) : upd (rm a H) a ob = H := by
  funext b
  by_cases e : b = a
  · rw [e, upd_same, h]
  · rw [upd_ne e, rm_ne e]
theorem rm_tabG {P : Addr} (h : H a = some ob) (ht : NT ob = true) (t : GxR.TabG H P) : GxR.TabG (rm a H) P := by
  obtain ⟨ps, e, t⟩ := t
  have ne : P ≠ a := fun z => by
    rw [z, h] at e
    cases e
    cases ht
  exact ⟨ps, by rw [rm_ne ne]; exact e, t⟩
/-- the owned cell at a changes, all else stays -/
theorem Nx.change (k : OkS K Z σ Γ H) (hv : Γ[i]? = some (.o c)) (hs : σ[i]? = some (some (.ref a))) (kp : Keep (rm a H) (rm a H')) (ha : H' a = some ob) (on : c.on a ob (minus Z σ Γ H')) : Nx K Z σ Γ H H' := by
  obtain ⟨v, e1, a', ob0, e2, e3, e4⟩ := k.sl i _ hv
  rw [hs] at e1
  cases e1
  cases e2
  have mu := c.mu _ _ _ e4
  have kq : Keep H (upd H' a ob0) := by
    refine ⟨fun b o e q => ?_, fun b ps e => ?_⟩
    · by_cases hb : b = a
      · subst hb
        rw [e3] at e
        cases e
        exact upd_same
      · rw [upd_ne hb]
        exact (rm_some (kp.obj b o (by rw [rm_ne hb]; exact e) q)).2
    · by_cases hb : b = a
      · subst hb
        rw [e3] at e
        cases e
        cases mu.2
      · rw [upd_ne hb]
        obtain ⟨ps', e', t⟩ := kp.tab b ps (by rw [rm_ne hb]; exact e)
        exact ⟨ps', (rm_some e').2, t⟩
  have n1 := Nx.of_keep k kq
  have own : Own Z σ Γ a := .inr ⟨i, c, hv, hs⟩
  have n2 := Nx.write (ob' := ob) n1.ok hv hs (by rw [minus_upd_own own]; exact on)
  have e : upd (upd H' a ob0) a ob = H' := by
    rw [upd_upd]
    funext b
    by_cases e : b = a
    · rw [e, upd_same, ha]
    · rw [upd_ne e]
  rw [e] at n2
  exact n1.trans n2
/-- what a cell's content leans on is not owned -/
theorem tk_change (k : OkS K Z σ Γ H) (hv : Γ[i]? = some (.o c)) (hs : σ[i]? = some (some (.ref a))) (kp : Keep (rm a H) (rm a H')) : TK (rm a H') (minus Z σ Γ H') := fun b o e h => by
  obtain ⟨hb, e'⟩ := rm_some e
  refine minus_of e' fun z => ?_
  obtain ⟨ob, e1, m1, m2⟩ := k.own_ex z
  have e2 := kp.obj b ob (by rw [rm_ne hb]; exact e1) m2
  rw [e] at e2
  cases e2
  rw [m1] at h
  cases h
end

/-! ### arguments, of which one of several lists comes -/
def tAU (K : PySem.W.Frag) (Γ : En) (P : List Sl → Prop) : TA := fun σ H Q => ∃ Z, OkS K Z σ Γ H ∧ ∀ ss vs H', P ss → Nx K Z σ Γ H H' → RVs K (minus Z σ Γ H') ss vs → Q vs H'
section
variable {X : Cx} {K : PySem.W.Frag} {Γ Γ' : En} {a b e : Expr} {es : List Expr} {pos p p' : Pos} {s s1 s2 : Sl} {d : D} {ds : List D} {ss : List Sl} {Φ Ψ : Out → Prop} {i j : Nat} {c : Ct} {P : D → Prop} {PP : List Sl → Prop}
theorem jau_nil : PA X [] (tAU K Γ (· = [])) := pa_imp pa_nil fun σ H Q ⟨Z, k, q⟩ => q [] [] H rfl (Nx.refl k) rfl
theorem jau_cons (h : PE X e (tN K Γ P)) (r : PA X es (tAU K Γ PP)) (hs : starEach (e :: es) X.env = (false, eval e X.env) :: starEach es X.env := by rfl) : PA X (e :: es) (tAU K Γ fun ss => ∃ d r, ss = .d d :: r ∧ P d ∧ PP r) :=
  pa_imp (pa_cons h r hs) fun σ H Q ⟨Z, k, q⟩ => ⟨Z, k, fun d v H1 hd n1 r1 => ⟨Z, n1.ok, fun ss vs H2 hp n2 r2 => q (.d d :: ss) (v :: vs) H2 ⟨d, ss, rfl, hd, hp⟩ (n1.trans n2) ⟨v, vs, rfl, Dn.k r1 n2.kp.tk, r2⟩⟩⟩
theorem jau_c (h : PE X e (tR K Γ s)) (r : PA X es (tAU K Γ PP)) (hs : starEach (e :: es) X.env = (false, eval e X.env) :: starEach es X.env := by rfl) : PA X (e :: es) (tAU K Γ fun ss => ∃ r, ss = s :: r ∧ PP r) :=
  pa_imp (pa_cons h r hs) fun σ H Q ⟨Z, k, q⟩ => ⟨Z, k, fun v H1 n1 r1 => ⟨Z, n1.ok, fun ss vs H2 hp n2 r2 => q (s :: ss) (v :: vs) H2 ⟨ss, rfl, hp⟩ (n1.trans n2) ⟨v, vs, rfl, r1.k n2.kp, r2⟩⟩⟩
theorem jau_a (h : PA X es (tA K Γ ss)) : PA X es (tAU K Γ (· = ss)) := pa_imp h fun σ H Q ⟨Z, k, q⟩ => ⟨Z, k, fun vs H' n r => q ss vs H' rfl n r⟩
theorem jau_imp {PP' : List Sl → Prop} (h : PA X es (tAU K Γ PP)) (w : ∀ ss, PP ss → PP' ss) : PA X es (tAU K Γ PP') := pa_imp h fun σ H Q ⟨Z, k, q⟩ => ⟨Z, k, fun ss vs H' hp n r => q ss vs H' (w ss hp) n r⟩
theorem je_tupU {k : Nat} {Pd : List D → Prop} (h : PA X es (tAU K Γ fun ss => ∃ ds, ss = ds.map .d ∧ Pd ds)) (hl : ∀ ds, Pd ds → ds.length ≤ 100000) : PE X (.Tuple es k pos) (tN K Γ fun d => ∃ ds, d = .t ds ∧ Pd ds) :=
  pe_imp (pe_tup h) fun σ H Q ⟨Z, k, q⟩ => ⟨Z, k, fun ss vs H1 hp n r => by
    obtain ⟨ds, e, hp⟩ := hp
    subst e
    have r' := rvs_d r
    refine ⟨by rw [r'.len]; exact Nat.le_trans (hl ds hp) (by decide), fun t ht => ?_⟩
    have n2 : Nx K Z σ Γ H1 (upd H1 t (.tup vs)) := Nx.new n.ok ht
    refine q (.t ds) _ _ ⟨ds, rfl, hp⟩ (n.trans n2) ⟨t, vs, rfl, ?_, r'.k n2.kp.tk⟩
    exact minus_of upd_same (n.ok.fresh ht)⟩
theorem je_lstU {Pd : List D → Prop} (h : PA X es (tAU K Γ fun ss => ∃ ds, ss = ds.map .d ∧ Pd ds)) (hl : ∀ ds, Pd ds → ds.length ≤ 100000) : PE X (.List es pos) (tF K Γ fun c => ∃ ds, c = cl K ds ∧ Pd ds) :=
  pe_imp (pe_lst h) fun σ H Q ⟨Z, k, q⟩ => ⟨Z, k, fun ss vs H1 hp n r => by
    obtain ⟨ds, e, hp⟩ := hp
    subst e
    have r' := rvs_d r
    refine ⟨by rw [r'.len]; exact Nat.le_trans (hl ds hp) (by decide), fun t ht => ?_⟩
    have n2 : Nx K Z σ Γ H1 (upd H1 t (.lst vs)) := Nx.new n.ok ht
    exact q _ t _ _ ⟨ds, rfl, hp⟩ (n.trans n2) (n.free ht) upd_same ⟨vs, rfl, r'.k (minus_keep.tk.trans (Keep.new ht).tk)⟩⟩
/-- operators, one of several operands on either side -/
theorem je_opU {op : Operator} {r : R2} {P1 P2 P3 : D → Prop} (ho : OpR X (binaryOp op) r) (h : ∀ d1 d2, P1 d1 → P2 d2 → ∃ d, Op2 K r (.d d1) (.d d2) d ∧ P3 d) (ha : PE X a (tN K Γ P1)) (hb : PE X b (tN K Γ P2)) : PE X (.BinOp a op b pos) (tN K Γ P3) :=
  pe_imp (pe_op ho ha hb) fun σ H Q ⟨Z, k, q⟩ => ⟨Z, k, fun d1 x H1 h1 n1 r1 => ⟨Z, n1.ok, fun d2 y H2 h2 n2 r2 => by
    obtain ⟨d, o, h3⟩ := h d1 d2 h1 h2
    exact o (minus Z σ Γ H2) H2 x y Q minus_keep n2.ok.tk (Dn.k r1 n2.kp.tk) r2 fun v H3 kp dv => q d v H3 h3 ((n1.trans n2).trans (Nx.of_keep n2.ok kp)) (dv.k (n2.ok.keep kp).tk)⟩⟩
theorem jt_cmpU {op : CmpOp} {r : R2} {P1 P2 : D → Prop} {Pb : Bool → Prop} (ho : OpR X (compareOp op) r) (h : ∀ d1 d2, P1 d1 → P2 d2 → ∃ x, Op2 K r (.d d1) (.d d2) (.b x) ∧ Pb x) (ha : PE X a (tN K Γ P1)) (hb : PE X b (tN K Γ P2)) (hm : behindInMarks op b = false) : PT X (.Compare a [op] [b] pos) (tTN K Γ Pb) :=
  pt_imp (pt_cmpR ho ha hb hm) fun σ H Q ⟨Z, k, q⟩ => ⟨Z, k, fun d1 x H1 h1 n1 r1 => ⟨Z, n1.ok, fun d2 y H2 h2 n2 r2 => by
    obtain ⟨b, o, h3⟩ := h d1 d2 h1 h2
    exact o (minus Z σ Γ H2) H2 x y _ minus_keep n2.ok.tk (Dn.k r1 n2.kp.tk) r2 fun v H3 kp dv => ⟨b, dv, q b H3 h3 ((n1.trans n2).trans (Nx.of_keep n2.ok kp))⟩⟩⟩
theorem je_ifU {cnd : Expr} {x : Bool} {P : Sl → Prop} (hc : PT X cnd (tT K Γ x)) (ha : x = true → PE X a (tU K Γ P)) (hb : x = false → PE X b (tU K Γ P)) : PE X (.IfExp cnd a b pos) (tU K Γ P) :=
  pe_imp (pe_ifExp hc (pe_cond ha) (pe_cond hb)) fun σ H Q ⟨Z, k, q⟩ => ⟨Z, k, fun H' n => by
    have go : ∀ s v H2, P s → Nx K Z σ Γ H' H2 → RetU K (minus Z σ Γ H2) H' H2 s v → Q v H2 := fun s v H2 hp n2 r2 => q s v H2 hp (n.trans n2) (by
      cases s with
      | u => trivial
      | d d => exact r2
      | p p => exact r2
      | o c =>
        obtain ⟨a, ob, e, fr, ha, on⟩ := r2
        exact ⟨a, ob, e, n.free fr, ha, on⟩)
    dsimp only
    cases x with
    | true =>
      rw [if_pos rfl]
      exact ⟨rfl, Z, n.ok, go⟩
    | false =>
      rw [if_neg Bool.false_ne_true]
      exact ⟨rfl, Z, n.ok, go⟩⟩
/-- tU back to data -/
theorem jn_u {P : D → Prop} (h : PE X e (tU K Γ (SD P))) : PE X e (tN K Γ P) := pe_imp h fun σ H Q ⟨Z, k, q⟩ => ⟨Z, k, fun s v H' hp n r => by
  cases hp with
  | mk d hd => exact q d v H' hd n r⟩
theorem jf_u {P : Ct → Prop} (h : PE X e (tU K Γ (SF P))) : PE X e (tF K Γ P) := pe_imp h fun σ H Q ⟨Z, k, q⟩ => ⟨Z, k, fun s v H' hp n r => by
  cases hp with
  | mk c hc =>
    obtain ⟨a, ob, e, fr, ha, on⟩ := r
    subst e
    exact q c a ob H' hc n fr ha on⟩
/-- a test on either side -/
theorem js_ifU {cnd : Expr} {Pb : Bool → Prop} {body orelse : List Stmt} (hc : PT X cnd (tTN X.K Γ Pb)) (ha : Pb true → PSs X body (tS X.K Γ Ψ)) (hb : Pb false → PSs X orelse (tS X.K Γ Ψ)) : PS X (.If cnd body orelse pos) (tS X.K Γ Ψ) :=
  ps_imp (ps_if hc (pss_cond ha) (pss_cond hb)) fun D σ H ⟨H0, ok, q⟩ => ⟨noZ, ok.toOkS, fun x H' hx n => by
    cases x with
    | true =>
      rw [if_pos rfl]
      exact ⟨hx, H0, ok.nx n, q⟩
    | false =>
      rw [if_neg Bool.false_ne_true]
      exact ⟨hx, H0, ok.nx n, q⟩⟩

/-! ### calls -/
section
variable {k : Nat} {f : Addr} {fd : FuncData} {ps : List Str} {m : Pm} {x : Str}
/-- any of several arguments -/
theorem je_callU {PR : Sl → Prop} (F : FnOk X.prog X.w X.K X.mg X.base CX0 k f fd ps (spP X.K m)) (hr : Room k X.A) (hm : X.mg x = some (.ref f)) (hk : PySem.W.keepIn X.K (.ref f) = true) (hb : Binds X.K fd ps []) (ha : PA X (e :: es) (tAU X.K Γ PP)) (hi : ∀ ss, PP ss → ∃ i, m.A i = ss ∧ m.G i ∧ ∀ r, m.R i r → PR r) (hnp : ∀ r, PR r → ∀ p, r ≠ .p p)
    (hg : Gl X x := by rfl) (hdb : (x == ("__debug__" : Str)) = false := by decide) (he : starEach (e :: es) X.env = (false, eval e X.env) :: starEach es X.env := by rfl) (hpl : (backTo pos (starEach es X.env)).any (·.1) = false := by rfl) :
    PE X (.Call (.Name x p) (e :: es) [] pos) (tU X.K Γ PR) :=
  pe_imp (pe_call (dvs := []) F hr hg hm hk hb .nil pass0 ha hdb he hpl) fun σ H Q ⟨Z, k, q⟩ => ⟨Z, k, fun ss vs H1 hp n r1 => by
    obtain ⟨i, e1, h0, h1⟩ := hi ss hp
    subst e1
    show spP X.K m (vs ++ []) H1 Q E0
    rw [List.append_nil]
    refine ⟨i, h0, fun P hP => minus_keep.tabG (n.ok.tb P hP), r1.k minus_keep, fun r v H2 hp kp rv => ?_⟩
    have n2 := Nx.of_keep n.ok kp
    refine q r v H2 (h1 r hp) (n.trans n2) ?_
    cases r with
    | u => trivial
    | d d => exact Dn.k rv n2.ok.tk
    | p p => exact absurd rfl (hnp _ (h1 _ hp) p)
    | o c =>
      obtain ⟨a, ob, e, fr, ha, on⟩ := rv
      exact ⟨a, ob, e, n.free fr, ha, on⟩⟩
end
end

/-! ### a def that changes its first argument's cell -/
structure PmM where
  ix : Type
  C : ix → Addr → Ct
  A : ix → List Sl
  G : ix → Prop
  R : ix → D → Prop
  E : ix → Addr → Ct
def spM (K : PySem.W.Frag) (m : PmM) : Sp := fun vs H Q _ => ∃ i a ob rest, vs = .ref a :: rest ∧ H a = some ob ∧ (m.C i a).on a ob (rm a H) ∧ m.G i ∧ (∀ P ∈ tabs K, GxR.TabG H P) ∧ RVs K (rm a H) (m.A i) rest ∧
  ∀ d v H' ob', m.R i d → Keep (rm a H) (rm a H') → H' a = some ob' → (m.E i a).on a ob' (rm a H') → Dn K H' d v → Q v H'
section
variable {X : Cx} {Γ : En} {e : Expr} {es : List Expr} {pos p p0 : Pos} {k : Nat} {f : Addr} {fd : FuncData} {ps : List Str} {m : PmM} {x y : Str} {c : Ct} {PP : List Sl → Prop} {P : D → Prop}
/-- f(cell, ..): the cell's content stays of its kind -/
theorem je_callM (i : Nat) (F : FnOk X.prog X.w X.K X.mg X.base CX0 k f fd ps (spM X.K m)) (hr : Room k X.A) (hm : X.mg x = some (.ref f)) (hk : PySem.W.keepIn X.K (.ref f) = true) (hb : Binds X.K fd ps []) (hv : Γ[i]? = some (.o c)) (ha : PA X es (tAU X.K Γ PP))
    (hi : ∀ ss, PP ss → ∀ a ob B, c.on a ob B → ∃ j, m.A j = ss ∧ m.G j ∧ (m.C j a).on a ob B ∧ (∀ d, m.R j d → P d) ∧ ∀ ob' B', (m.E j a).on a ob' B' → c.on a ob' B') (hN : X.N[i]? = some y := by rfl) (hx : Vis X.env.scope y := by first | exact Or.inl rfl | exact Or.inr (Or.inl rfl) | exact Or.inr (Or.inr rfl))
    (hg : Gl X x := by rfl) (hdb : (x == ("__debug__" : Str)) = false := by decide) (he : starEach (.Name y p0 :: es) X.env = (false, eval (.Name y p0) X.env) :: starEach es X.env := by rfl) (hpl : (backTo pos (starEach es X.env)).any (·.1) = false := by rfl)
    (hd2 : (y == ("__debug__" : Str)) = false := by decide) (hcd : (y == ("__classdict__" : Str)) = false := by decide) :
    PE X (.Call (.Name x p) (.Name y p0 :: es) [] pos) (tN X.K Γ P) :=
  pe_imp (pe_call (dvs := []) F hr hg hm hk hb .nil pass0 (pa_cons (pe_var hN hx hd2 hcd) ha he) hdb he hpl) fun σ H Q ⟨Z, k, q⟩ => by
    obtain ⟨v, e1, a, ob, e2, e3, on⟩ := k.sl i _ hv
    subst e2
    refine ⟨.ref a, e1, Z, k, fun ss vs H1 hp n r1 => ?_⟩
    obtain ⟨v', f1, a', ob1, f2, f3, on1⟩ := n.ok.sl i _ hv
    rw [e1] at f1
    cases f1
    cases f2
    obtain ⟨j, g1, g2, g3, g4, g5⟩ := hi ss hp a ob1 _ on1
    subst g1
    have own : Own Z σ Γ a := .inr ⟨i, c, hv, e1⟩
    have tk1 : Keep (minus Z σ Γ H1) (rm a H1) := by
      refine ⟨fun b o z _ => ?_, fun b ps z => ⟨ps, ?_, id⟩⟩
      · rw [rm_ne fun w => (minus_some z).2 (by rw [w]; exact own)]
        exact (minus_some z).1
      · rw [rm_ne fun w => (minus_some z).2 (by rw [w]; exact own)]
        exact (minus_some z).1
    show spM X.K m ((.ref a :: vs) ++ []) H1 Q E0
    rw [List.append_nil]
    refine ⟨j, a, ob1, vs, rfl, f3, (m.C j a).mono _ _ _ _ tk1.tk g3, g2, fun P hP => minus_keep.tabG (n.ok.tb P hP), r1.k tk1, fun d v H2 ob' hR kp ha' on' dv => ?_⟩
    have tk2 := tk_change n.ok hv e1 kp
    have n2 := Nx.change n.ok hv e1 kp ha' (c.mono _ _ _ _ tk2 (g5 _ _ on'))
    exact q d v H2 (g4 d hR) (n.trans n2) (dv.k n2.ok.tk)
end
section
variable {P : Program} {w : World} {K : PySem.W.Frag} {mg : Str → Option Value} {base : Heap}
theorem fn_okM {x qual : Str} {st : Stmt} {f : Addr} {fd : FuncData} {N ps : List Str} {k : Nat} {m : PmM} (F : Fun K x qual st f fd) (S : FnScope N ps (defScope st)) (hlen : ∀ i, (m.A i).length + 1 = ps.length) (hno : ∀ i c, Sl.o c ∉ m.A i) (hps : ps.length ≤ N.length) (pin : ∀ i a b ob B, (m.E i a).on b ob B → b = a)
    (hbody : ∀ (cdv : Value) (A : Around) (outer : List Env) (s : Shared) (H : Hp) (E : XK) (i : m.ix) (a : Addr), Room k (A.deeper (PyProof.Rows.envOfC qual (defScope st) s.heap.objs.size f cdv)) → m.G i →
      PSs (cxOf CX0 P w K mg base N qual (defScope st) f cdv A outer s H E).nox (defBody st) (tS K (.o (m.C i a) :: (m.A i ++ List.replicate (N.length - (m.A i).length - 1) .u)) (fun o => match o with
        | .rt Γ r => Γ[0]? = some (.o (m.E i a)) ∧ ∃ d, r = .d d ∧ m.R i d
        | .nx Γ => Γ[0]? = some (.o (m.E i a)) ∧ m.R i .non
        | .ct _ => False))) : FnOk P w K mg base CX0 (k + 1) f fd ps (spM K m) := by
  refine F.ok S (fun vs H Q E ⟨i, a, ob, rest, e, _, _, _, _, h, _⟩ => by rw [e, List.length_cons, RVs.len h]; exact hlen i) (fun cdv A outer s H vs Q E hr ⟨i, a, ob, rest, e, ha, on, hi, ht, h, q⟩ => ?_)
  subst e
  refine ⟨_, hbody cdv A outer s H E i a hr hi, rm a H, ?_, fun Γ' σ' H' hn k => ?_, fun Γ' σ' H' r' v hr' k rv => ?_, fun _ _ _ z => z.elim⟩
  · have mu := (m.C i a).mu _ _ _ on
    have k0 := ok_start (K := K) (N := N) (rs := .u :: m.A i) (vs := .ref a :: rest) (H := rm a H) ⟨_, _, rfl, trivial, h⟩ (by rw [List.length_cons, hlen i]; exact hps) (fun c z => by
      rcases List.mem_cons.mp z with z | z
      · cases z
      · exact hno i c z) fun P hP => rm_tabG ha mu.2 (ht P hP)
    obtain ⟨k1, e1⟩ := Nx.hide (ob := ob) k0.toOkS rm_self mu.1 mu.2
    rw [rm_upd ha] at k1 e1
    have k2 : Ok K (rm a H) (fun b => noZ b ∨ b = a) (L2.start N (.ref a :: rest)) (Sl.u :: m.A i ++ List.replicate (N.length - (Sl.u :: m.A i).length) .u) H := ⟨k1, by rw [e1]; exact k0.base⟩
    have hs : (L2.start N (.ref a :: rest)).set 0 (some (.ref a)) = L2.start N (.ref a :: rest) := rfl
    have k3 := k2.take (i := 0) (c := m.C i a) (fun z => z) (by rw [k2.len]; simp) ha (by rw [e1]; exact (m.C i a).mono _ _ _ _ (k0.base.tk) on)
    rw [hs] at k3
    have hn : N.length - (Sl.u :: m.A i).length = N.length - (m.A i).length - 1 := by rw [List.length_cons]; omega
    rw [hn] at k3
    exact k3
  · obtain ⟨hn1, hn2⟩ := hn
    obtain ⟨v, e1, b, ob', e2, e3, on'⟩ := k.sl 0 _ hn1
    have hb := pin i a b ob' _ on'
    subst hb
    subst e2
    have own : Own noZ σ' Γ' b := .inr ⟨0, _, hn1, e1⟩
    have kp : Keep (minus noZ σ' Γ' H') (rm b H') := by
      refine ⟨fun c o z _ => ?_, fun c ps z => ⟨ps, ?_, id⟩⟩
      · rw [rm_ne fun w => (minus_some z).2 (by rw [w]; exact own)]
        exact (minus_some z).1
      · rw [rm_ne fun w => (minus_some z).2 (by rw [w]; exact own)]
        exact (minus_some z).1
    exact q .non .non H' ob' hn2 (k.base.trans kp) e3 ((m.E i b).mono _ _ _ _ kp.tk on') rfl
  · obtain ⟨hn1, d, e, hR⟩ := hr'
    subst e
    obtain ⟨v', e1, b, ob', e2, e3, on'⟩ := k.sl 0 _ hn1
    have hb := pin i a b ob' _ on'
    subst hb
    subst e2
    have own : Own noZ σ' Γ' b := .inr ⟨0, _, hn1, e1⟩
    have kp : Keep (minus noZ σ' Γ' H') (rm b H') := by
      refine ⟨fun c o z _ => ?_, fun c ps z => ⟨ps, ?_, id⟩⟩
      · rw [rm_ne fun w => (minus_some z).2 (by rw [w]; exact own)]
        exact (minus_some z).1
      · rw [rm_ne fun w => (minus_some z).2 (by rw [w]; exact own)]
        exact (minus_some z).1
    exact q d v H' ob' hR (k.base.trans kp) e3 ((m.E i b).mono _ _ _ _ kp.tk on') rv
end
end DL
end

section
set_option Elab.async false
set_option linter.all false
set_option maxRecDepth 100000
set_option maxHeartbeats 2000000
/-! D9: comprehensions and loops of which one of several comes. -/
namespace DL
open PySem PySem.Spec L2
inductive LcR {α : Type} (Pt : α → Bool → Prop) (Pf : α → D → Prop) : List α → List D → Prop where
  | nil : LcR Pt Pf [] []
  | skip {xs ds x} : LcR Pt Pf xs ds → Pt x false → LcR Pt Pf (xs ++ [x]) ds
  | take {xs ds x d} : LcR Pt Pf xs ds → Pt x true → Pf x d → LcR Pt Pf (xs ++ [x]) (ds ++ [d])
section
variable {α : Type} {Pt : α → Bool → Prop} {Pf : α → D → Prop} {xs : List α} {ds : List D}
theorem LcR.len (h : LcR Pt Pf xs ds) : ds.length ≤ xs.length := by
  induction h with
  | nil => exact Nat.le_refl _
  | skip _ _ ih => rw [List.length_append]; omega
  | take _ _ _ ih => rw [List.length_append, List.length_append]; simp only [List.length_cons, List.length_nil]; omega
theorem LcR.mem (h : LcR Pt Pf xs ds) : ∀ d ∈ ds, ∃ x ∈ xs, Pt x true ∧ Pf x d := by
  induction h with
  | nil => intro d hd; cases hd
  | skip _ _ ih =>
    intro d hd
    obtain ⟨x, hx, q⟩ := ih d hd
    exact ⟨x, List.mem_append_left _ hx, q⟩
  | take _ h1 h2 ih =>
    intro d hd
    rcases List.mem_append.mp hd with z | z
    · obtain ⟨x, hx, q⟩ := ih d z
      exact ⟨x, List.mem_append_left _ hx, q⟩
    · obtain rfl := List.mem_singleton.mp z
      exact ⟨_, List.mem_append_right _ (List.mem_singleton.mpr rfl), h1, h2⟩
end
section
variable {X : Cx} {Γ : En} {elt tg iter tg1 iter1 : Expr} {ifs ifs1 : List Expr} {scope : Scope} {own : List (Str × Nat)} {pos p p' : Pos} {g g1 : TG} {js js1 : List Nat} {S S1 : D → En → Option En} {α β : Type} {Z : Hd} {Ψ : Out → Prop} {x : Str}
theorem lcN_sem {xs : List α} {enc : α → D} {Pt : α → Bool → Prop} {Pf : α → D → Prop} {Γe : α → En} {σ : St} {H : Hp} {Q : VK} {vs : List Nat} (hT : Tg X.K g js S) (hj : ∀ i ∈ js, i ∈ vs) (hu : ∀ i ∈ vs, ∀ s, Γ[i]? = some s → s = .u) (hS : ∀ x ∈ xs, S (enc x) Γ = some (Γe x)) (hz : xs.length ≤ 100000)
    (q : tF X.K Γ (fun c => ∃ ds, c = cl X.K ds ∧ LcR Pt Pf xs ds) σ H Q) : tLc (tI X.K Γ (xs.map enc)) g (tAnyT xs fun x => tTN X.K (Γe x) (Pt x)) (tAny xs (fun x => Pt x true) fun x => tN X.K (Γe x) (Pf x)) vs σ H Q := by
  obtain ⟨Z, k, q⟩ := q
  refine ⟨Z, k, fun J H1 G Y n w hG hY Dl hD => ?_⟩
  refine lc_it w (fun i H2 => ∃ ds, LcR Pt Pf (xs.take i) ds ∧ Acc X.K Z σ Γ Dl H1 ds H2) ⟨[], by rw [List.take_zero]; exact .nil, Acc.start n.ok hD⟩ (fun i H2 _ ⟨ds, _, p⟩ => hG H2 (p.2.1.trans minus_keep)) (fun i x H2 H3 hi ⟨ds, hR, p⟩ y => ?_) (fun H2 ⟨ds, hR, p⟩ => ?_)
  · obtain ⟨ext, d, hd, hdn⟩ := hY i H2 x H3 hi (p.2.1.trans minus_keep) y
    obtain ⟨xe, hx, rfl⟩ : ∃ xe, xs[i]? = some xe ∧ enc xe = d := by
      rw [List.getElem?_map] at hd
      exact Option.map_eq_some_iff.mp hd
    have hmem : xe ∈ xs := List.mem_of_getElem? hx
    have n3 := ext_nx p.1 ext
    have p3 := p.nx n3
    have e1 : xs.take (i + 1) = xs.take i ++ [xe] := by rw [List.take_add_one, hx]; rfl
    refine turn_in hT hj hu (hS xe hmem) p3.1 hdn fun σ2 wq S2 k2 => ⟨wq, xe, hmem, _, k2, fun b H4 hb n4 => ?_⟩
    have p4 := p3.nx (S2.nx n4)
    have hlt : i < xs.length := (List.getElem?_eq_some_iff.mp hx).1
    dsimp only
    cases b with
    | true =>
      rw [if_pos rfl]
      refine ⟨xe, hmem, hb, _, n4.ok, fun d y H5 hd5 n5 r5 => ?_⟩
      have r5' : Dn X.K (minus (fun b => Z b ∨ b = Dl) σ Γ H5) d y := by
        rw [← S2.minus]
        exact r5
      obtain ⟨acc, h1, h2, h3⟩ := (p4.nx (S2.nx n5)).app r5' (by
        have := hR.len
        rw [List.length_take] at this
        omega) hD n.ok
      exact ⟨acc, h1, h2, _, by rw [e1]; exact .take hR hb hd5, h3⟩
    | false =>
      rw [if_neg Bool.false_ne_true]
      exact ⟨ds, by rw [e1]; exact .skip hR hb, p4⟩
  · rw [List.length_map, List.take_length] at hR
    obtain ⟨n2, ob, h1, h2⟩ := p.fin hD n.ok
    exact q _ Dl ob H2 ⟨ds, rfl, hR⟩ (n.trans n2) (n.free hD) h1 h2
theorem jtn_one {K : PySem.W.Frag} {c : Expr} {Pb : Bool → Prop} (h : PT X c (tTN K Γ Pb)) : PTs X [c] (tTN K Γ Pb) := pts_one h
theorem jtn_nil {K : PySem.W.Frag} : PTs X [] (tTN K Γ (· = true)) := pts_imp pts_nil fun σ H Q ⟨Z, k, q⟩ => q true H rfl (Nx.refl k)
theorem je_lcN {xs : List α} {enc : α → D} {Pt : α → Bool → Prop} {Pf : α → D → Prop} {Γe : α → En} (own : List (Str × Nat)) (hc : X.calm = true) (hN : X.N.Nodup) (hi : PI X tg iter (tI X.K Γ (xs.map enc))) (ok : BlkOk X.N X.env.scope scope own) (hT : Tg X.K g js S) (hj : ∀ i ∈ js, i ∈ own.map (·.2)) (hu : (own.all fun p => isU Γ[p.2]?) = true)
    (hS : ∀ x ∈ xs, S (enc x) Γ = some (Γe x)) (hz : xs.length ≤ 100000)
    (hg : ∀ (s : Shared) (H : Hp) (C : Addr) (cl : List (Str × Addr)) (fp : List Addr), PG (X.blk s H scope (compEnvC scope cl C X.env) fp) tg g)
    (ht : ∀ x ∈ xs, ∀ (s : Shared) (H : Hp) (C : Addr) (cl : List (Str × Addr)) (fp : List Addr), PTs (X.blk s H scope (compEnvC scope cl C X.env) fp) ifs (tTN X.K (Γe x) (Pt x)))
    (he : ∀ x ∈ xs, Pt x true → ∀ (s : Shared) (H : Hp) (C : Addr) (cl : List (Str × Addr)) (fp : List Addr), PE (X.blk s H scope (compEnvC scope cl C X.env) fp) elt (tN X.K (Γe x) (Pf x))) (hs : ∀ x, foldedSetIterable iter X.env x = pure x := by intro _; rfl) :
    PE X (.ListComp elt [⟨tg, iter, ifs, 0⟩] scope pos) (tF X.K Γ (fun c => ∃ ds, c = cl X.K ds ∧ LcR Pt Pf xs ds)) :=
  pe_imp (pe_lc hc hN hi ok hg (fun s H C cl fp => pts_any fun x hx => ht x hx s H C cl fp) (fun s H C cl fp => pe_any fun x hx hp => he x hx hp s H C cl fp) hs) fun σ H Q q => lcN_sem hT hj (hu_of_own hu) hS hz q
theorem js_setLcN (i : Nat) {xs : List α} {enc : α → D} {Pt : α → Bool → Prop} {Pf : α → D → Prop} {Γe : α → En} (own : List (Str × Nat)) (hc : X.calm = true) (hN : X.N.Nodup) (hy : X.N[i]? = some x) (hyl : X.env.scope.names.lookup x = some .local) (hl : i < Γ.length) (hsw : swapsWith (.ListComp elt [⟨tg, iter, ifs, 0⟩] scope p) (some (.Name x p')) pos.line X.env = pure true)
    (hi : PI X tg iter (tI X.K Γ (xs.map enc))) (ok : BlkOk X.N X.env.scope scope own) (hT : Tg X.K g js S) (hj : ∀ i ∈ js, i ∈ own.map (·.2)) (hu : (own.all fun p => isU Γ[p.2]?) = true)
    (hS : ∀ x ∈ xs, S (enc x) Γ = some (Γe x)) (hz : xs.length ≤ 100000)
    (hg : ∀ (s : Shared) (H : Hp) (C : Addr) (cl : List (Str × Addr)) (fp : List Addr), PG (X.blk s H scope (compEnvC scope cl C X.env) fp) tg g)
    (ht : ∀ x ∈ xs, ∀ (s : Shared) (H : Hp) (C : Addr) (cl : List (Str × Addr)) (fp : List Addr), PTs (X.blk s H scope (compEnvC scope cl C X.env) fp) ifs (tTN X.K (Γe x) (Pt x)))
    (he : ∀ x ∈ xs, Pt x true → ∀ (s : Shared) (H : Hp) (C : Addr) (cl : List (Str × Addr)) (fp : List Addr), PE (X.blk s H scope (compEnvC scope cl C X.env) fp) elt (tN X.K (Γe x) (Pf x))) (h : ∀ ds, LcR Pt Pf xs ds → Ψ (.nx (Γ.set i (.o (cl X.K ds))))) (hs : ∀ x, foldedSetIterable iter X.env x = pure x := by intro _; rfl) :
    PS X (.Assign [.Name x p'] (.ListComp elt [⟨tg, iter, ifs, 0⟩] scope p) pos) (tS X.K Γ Ψ) :=
  ps_imp (ps_setLc hc hN hy hyl hsw hi ok hg (fun s H C cl fp => pts_any fun x hx => ht x hx s H C cl fp) (fun s H C cl fp => pe_any fun x hx hp => he x hx hp s H C cl fp) hs) fun D σ H q =>
    lcN_sem hT hj (hu_of_own hu) hS hz (tS_setF (P := fun c => ∃ ds, c = cl X.K ds ∧ LcR Pt Pf xs ds) hl (fun c ⟨ds, e, r⟩ => by subst e; exact h ds r) q)
end

/-! ### walks over one of several lists -/
def tIN (K : PySem.W.Frag) (Γ : En) (P : List D → Prop) : TI := fun σ H R => ∃ Z, OkS K Z σ Γ H ∧ ∀ ds J H1 G Y, P ds → Nx K Z σ Γ H H1 → Walk J ds.length G Y → (∀ H2, Keep (minus Z σ Γ H1) H2 → G H2) →
  (∀ i Ha x Hb, i < ds.length → Keep (minus Z σ Γ H1) Ha → Y i Ha x Hb → (Hb = Ha ∨ ∃ T o, Ha T = none ∧ Hb = upd Ha T o) ∧ ∃ d, ds[i]? = some d ∧ Dn K Hb d x) → R J H1
section
variable {X : Cx} {K : PySem.W.Frag} {Γ : En} {a b c e tg : Expr} {es rest body : List Expr} {pos p : Pos} {s : Sl} {d : D} {ds xs ys : List D} {Ψ : Out → Prop}
theorem ji_range1N {P : Int → Prop} (hm : X.mg "range" = none) (ha : PE X a (tN X.K Γ fun d => ∃ n, d = .i n ∧ P n)) (hz : ∀ n, P n → -(2 ^ 62) ≤ n ∧ n < 2 ^ 62) (hg : Gl X "range" := by rfl)
    (hs : starEach [a] X.env = (false, eval a X.env) :: starEach [] X.env := by rfl) (hs3 : starEach [] X.env = [] := by rfl) : PI X tg (.Call (.Name "range" p) [a] [] pos) (tIN X.K Γ fun ds => ∃ n, ds = nums (rng 0 n) ∧ P n) :=
  pi_imp (pi_range1 hg hm (jau_cons ha jau_nil hs) (by rw [hs, hs3])) fun σ H R ⟨Z, k, q⟩ => ⟨Z, k, fun ss vs H1 hp n r => by
    obtain ⟨d, ss', e0, ⟨hi, e1, hP⟩, e2⟩ := hp
    have e2 : ss' = [] := e2
    subst e2 e1 e0
    obtain ⟨v, r1, e, h1, h3⟩ := r
    have h3 : r1 = [] := h3
    have h1 : v = .int hi := h1
    subst h3 h1 e
    refine ⟨hi, rfl, (hz hi hP).1, (hz hi hP).2, q _ _ H1 (fun _ => True) _ ⟨hi, rfl, hP⟩ n (by rw [rng_len, Int.sub_zero]; exact walk_range) (fun _ _ => trivial) fun i Ha x Hb hi' k y => ?_⟩
    obtain ⟨rfl, rfl⟩ := y
    rw [rng_len] at hi'
    exact ⟨.inl rfl, _, rng_get hi', rfl⟩⟩
theorem js_forN {body : List Stmt} {g : TG} {js : List Nat} {S : D → En → Option En} {P : List D → Prop} (I : List D → Nat → En → Prop) (hp : PassesOwn (model X.prog X.w) X.A X.env X.xe) (hc : X.calm = true) (hi : PI X tg e (tIN X.K Γ P)) (hg : PG X tg g) (hT : Tg X.K g js S) (h0 : ∀ ds, P ds → I ds 0 Γ)
    (hs : ∀ ds, P ds → ∀ i d Γ', ds[i]? = some d → I ds i Γ' → ∃ Γ'', S d Γ' = some Γ'' ∧ PSs X body (tS X.K Γ'' (turnW (I ds (i + 1)) Ψ))) (hd : ∀ ds, P ds → ∀ Γ', I ds ds.length Γ' → Ψ (.nx Γ')) (hf : ∀ x, foldedSetIterable e X.env x = pure x := by intro _; rfl) : PS X (.For tg e body [] pos) (tS X.K Γ Ψ) := by
  refine ps_imp (ps_for hp hc hi hg (pss_ex (α := En × (Out → Prop)) (phi := fun q => PSs X body (tS X.K q.1 q.2)) (t := fun q => tS X.K q.1 q.2) fun _ h => h) hf) fun D σ H ⟨H0, ok, h1, h2, h3⟩ => ?_
  refine ⟨noZ, ok.toOkS, fun ds J H1 G Y hP n w hG hY => ?_⟩
  have ok1 := ok.nx n
  refine for_it w (g := g) (tb := fun D σ H => ∃ q : En × (Out → Prop), PSs X body (tS X.K q.1 q.2) ∧ tS X.K q.1 q.2 D σ H) (fun i σ' H' => ∃ Γ', I ds i Γ' ∧ Ok X.K (minus noZ σ Γ H1) noZ σ' Γ' H') ⟨Γ, h0 ds hP, ⟨ok1.toOkS, Keep.refl _⟩⟩ (fun i σ' H' _ ⟨Γ', _, k⟩ => hG H' (k.base.trans minus_keep)) (fun i x σ' H' H2 hi' ⟨Γ', hI, k⟩ y => ?_) (fun σ' H' ⟨Γ', hI, k⟩ => h1 Γ' σ' H' (hd ds hP Γ' hI) ⟨k.toOkS, ok1.base.trans k.base⟩)
  obtain ⟨ext, d, hds, hdn⟩ := hY i H' x H2 hi' (k.base.trans minus_keep) y
  obtain ⟨Γ'', hS, hb⟩ := hs ds hP i d Γ' hds hI
  have k2 := k.nx (ext_nx k.toOkS ext)
  refine hT.run noZ σ' Γ' Γ'' H2 _ d x _ k2 (hdn.k k2.tk) hS fun σ2 _ k3 => ⟨(Γ'', turnW (I ds (i + 1)) Ψ), hb, minus noZ σ Γ H1, k3, fun Γ3 σ3 H3 q k4 => ⟨Γ3, q, k4⟩, fun Γ3 σ3 H3 r v q k4 rv => h2 Γ3 σ3 H3 r v q ⟨k4.toOkS, ok1.base.trans k4.base⟩ ?_, fun Γ3 σ3 H3 q k4 => ⟨Γ3, q, k4⟩⟩
  cases r with
  | u => trivial
  | d d => exact rv
  | p p => exact rv
  | o c =>
    obtain ⟨a, ob, e1, e2, e3, e4⟩ := rv
    exact ⟨a, ob, e1, ok1.base.free e2, e3, e4⟩
end
end DL
end

section
set_option Elab.async false
set_option linter.all false
set_option maxRecDepth 100000
set_option maxHeartbeats 2000000
/-! Q0: quiet evaluation (a generator's elements and what they call): nothing is changed, new things may be laid. -/
namespace QL
open PySem PySem.Spec PyProof.Rows L2 DL
mutual
def VD (h : Heap) : D → Value → Prop
  | .non, v => v = .none
  | .b x, v => v = .bool x
  | .i n, v => ∃ t, v = .int n t
  | .t xs, v => ∃ (a : Addr) (its : List Value), v = .ref a ∧ IsTup h a its.toArray ∧ its.length ≤ sizeLine ∧ VDs h xs its
  | .c _, _ => True
  | .s _, _ => True
def VDs (h : Heap) : List D → List Value → Prop
  | [], vs => vs = []
  | x :: xs, vs => ∃ v r, vs = v :: r ∧ VD h x v ∧ VDs h xs r
end
def HK (h h' : Heap) : Prop := ∀ b o, h.get? b = some o → h'.get? b = some o
theorem HK.refl (h : Heap) : HK h h := fun _ _ e => e
/-- all but the things of bare fields stay -/
def HN (h h' : Heap) : Prop := ∀ b o, h.get? b = some o → (∀ vs, o.data ≠ .fields vs) → h'.get? b = some o
theorem HK.n {h h' : Heap} (k : HK h h') : HN h h' := fun b o e _ => k b o e
theorem HN.trans {h h1 h2 : Heap} (a : HN h h1) (b : HN h1 h2) : HN h h2 := fun c o e d => b c o (a c o e d) d
theorem HN.tup {h h' : Heap} (k : HN h h') {a : Addr} {its : Array Value} (p : IsTup h a its) : IsTup h' a its := by
  obtain ⟨o, e, c, n, d⟩ := p
  exact ⟨o, k a o e (fun vs z => by rw [d] at z; cases z), c, n, d⟩
theorem HN.cell {h h' : Heap} (k : HN h h') {a : Addr} {v : Option Value} (p : h.IsCell a v) : h'.IsCell a v := by
  obtain ⟨o, e, d⟩ := p
  exact ⟨o, k a o e (fun vs z => by rw [d] at z; cases z), d⟩
theorem HK.trans {h h1 h2 : Heap} (a : HK h h1) (b : HK h1 h2) : HK h h2 := fun c o e => b c o (a c o e)
mutual
theorem VD.mono {h h' : Heap} (k : HN h h') : ∀ (d : D) (v : Value), VD h d v → VD h' d v
  | .non, _, x => x
  | .b _, _, x => x
  | .i _, _, x => x
  | .t xs, _, ⟨a, its, e, p, z, q⟩ => ⟨a, its, e, k.tup p, z, VDs.mono k xs its q⟩
  | .c _, _, _ => trivial
  | .s _, _, _ => trivial
theorem VDs.mono {h h' : Heap} (k : HN h h') : ∀ (ds : List D) (vs : List Value), VDs h ds vs → VDs h' ds vs
  | [], _, x => x
  | x :: xs, _, ⟨v, r, e, p, q⟩ => ⟨v, r, e, VD.mono k x v p, VDs.mono k xs r q⟩
end
theorem VD.k {h h' : Heap} {d : D} {v : Value} (x : VD h d v) (k : HK h h') : VD h' d v := VD.mono k.n d v x
theorem VD.n {h h' : Heap} {d : D} {v : Value} (x : VD h d v) (k : HN h h') : VD h' d v := VD.mono k d v x
theorem VDs.n {h h' : Heap} {ds : List D} {vs : List Value} (x : VDs h ds vs) (k : HN h h') : VDs h' ds vs := VDs.mono k ds vs x
theorem VDs.k {h h' : Heap} {ds : List D} {vs : List Value} (x : VDs h ds vs) (k : HK h h') : VDs h' ds vs := VDs.mono k.n ds vs x
theorem VDs.len {h : Heap} : ∀ {ds : List D} {vs : List Value}, VDs h ds vs → vs.length = ds.length
  | [], _, x => by rw [show _ = [] from x]; rfl
  | _ :: _, _, ⟨_, _, e, _, q⟩ => by rw [e, List.length_cons, List.length_cons, VDs.len q]
theorem VDs.at {h : Heap} : ∀ {ds : List D} {vs : List Value} {i : Nat} {d : D}, VDs h ds vs → ds[i]? = some d → ∃ v, vs[i]? = some v ∧ VD h d v
  | [], _, i, d, x, e => by simp at e
  | y :: ds, _, 0, d, ⟨v, r, e1, p, q⟩, e => by
    subst e1
    cases e
    exact ⟨v, rfl, p⟩
  | y :: ds, _, i + 1, d, ⟨v, r, e1, p, q⟩, e => by
    subst e1
    exact VDs.at (i := i) q e
theorem Kp.k {s s' : Shared} (x : Keeps s s') : HK s.heap s'.heap := by
  obtain ⟨h', tk, rfl, k⟩ := x
  exact k
theorem Kp.refl (s : Shared) : Keeps s s := ⟨s.heap, s.toks, rfl, fun _ _ e => e⟩
theorem Kp.tok (s : Shared) (k : Nat) : Keeps s { s with toks := k } := ⟨s.heap, k, rfl, fun _ _ e => e⟩
theorem Kp.trans {s s1 s2 : Shared} (a : Keeps s s1) (b : Keeps s1 s2) : Keeps s s2 := by
  obtain ⟨h1, t1, rfl, k1⟩ := a
  obtain ⟨h2, t2, rfl, k2⟩ := b
  exact ⟨h2, t2, rfl, fun c o e => k2 c o (k1 c o e)⟩
/-! tracked data as data in the heap -/
mutual
theorem vd_of {P : Program} {w : World} {K : PySem.W.Frag} {H : Hp} {h : Heap} (ok : HOk P w H h) : ∀ (d : D) (v : V) (u : Value), Dn K H d v → RelV v u → VD h d u
  | .non, v, u, q, r => by
    rw [show v = .non from q] at r
    exact r
  | .b x, v, u, q, r => by
    rw [show v = .bl x from q] at r
    exact r
  | .i n, v, u, q, r => by
    rw [show v = .int n from q] at r
    exact r
  | .t xs, v, u, ⟨a, vs, e, h1, h2⟩, r => by
    subst e
    have r : u = .ref a := r
    subst r
    obtain ⟨z, its, rv, p⟩ := (show ObjOk P w H h a (.tup vs) from ok a _ h1)
    exact ⟨a, its, rfl, p, by rw [← rv.length]; exact z, vds_of ok xs vs its h2 rv⟩
  | .c _, _, _, _, _ => trivial
  | .s _, _, _, _, _ => trivial
theorem vds_of {P : Program} {w : World} {K : PySem.W.Frag} {H : Hp} {h : Heap} (ok : HOk P w H h) : ∀ (ds : List D) (vs : List V) (us : List Value), Dns K H ds vs → Vals vs us → VDs h ds us
  | [], vs, us, q, r => by
    rw [show vs = [] from q] at r
    cases r
    rfl
  | x :: xs, _, us, ⟨v, rs, e, h1, h2⟩, r => by
    subst e
    cases r with
    | cons r1 r2 => exact ⟨_, _, rfl, vd_of ok x v _ h1 r1, vds_of ok xs rs _ h2 r2⟩
end
/-- where an expression is evaluated -/
structure QX where
  prog : Program
  w : World
  A : Around
  env : Env
  base : Heap
  K : PySem.W.Frag
  mg : Str → Option Value
structure QX.Ok (q : QX) : Prop where
  mod : Mod q.K q.mg q.base
  glob : q.env.globals = mainGlobals
  blt : q.env.builtins = builtinsNs
  kind : q.env.scope.kind = .function
  hd : q.A.handled = none
/-- what is known of the heap: it stays -/
structure Fa (F : Heap → Prop) : Prop where
  mono : ∀ h h', HN h h' → F h → F h'
def QE (q : QX) (F : Heap → Prop) (e : Expr) (d : D) : Prop := ∀ (E : Value → Shared → Prop) (s : Shared), HK q.base s.heap → F s.heap → wpAny (model q.prog q.w) q.A (eval e q.env) (fun y s' => VD s'.heap d y ∧ Keeps s s') E s
def QB (q : QX) (F : Heap → Prop) (e : Expr) (b : Bool) : Prop := ∀ (E : Value → Shared → Prop) (s : Shared), HK q.base s.heap → F s.heap → wpAny (model q.prog q.w) q.A (isTrue e q.env (eval e q.env)) (fun c s' => c = b ∧ Keeps s s') E s
def QBw (q : QX) (F : Heap → Prop) (e : Expr) (b : Bool) : Prop := ∀ (wh : Sem Value) (E : Value → Shared → Prop) (s : Shared), HK q.base s.heap → F s.heap → wpAny (model q.prog q.w) q.A (isTrue e q.env wh) (fun c s' => c = b ∧ Keeps s s') E s
def QA (q : QX) (F : Heap → Prop) (es : List Expr) (ds : List D) : Prop := ∀ (pos : Pos) (E : Value → Shared → Prop) (s : Shared), HK q.base s.heap → F s.heap → wpAny (model q.prog q.w) q.A (spliced (backTo pos (starEach es q.env))) (fun ys s' => VDs s'.heap ds ys ∧ Keeps s s') E s
section
variable {rest0 : List Stmt} {q : QX} {F : Heap → Prop} {e a b c : Expr} {es rest : List Expr} {d d1 d2 : D} {ds : List D} {pos p : Pos}
theorem two {α : Type} (hF : Fa F) (ha : QE q F a d1) (hb : QE q F b d2) {f : Value → Value → Sem α} {Q : α → Shared → Prop} {E : Value → Shared → Prop} {s : Shared} (k : HK q.base s.heap) (hf : F s.heap)
    (h : ∀ x y s', Keeps s s' → VD s'.heap d1 x → VD s'.heap d2 y → wpAny (model q.prog q.w) q.A (f x y) Q E s') :
    wpAny (model q.prog q.w) q.A (eval a q.env) (fun x s₁ => wpAny (model q.prog q.w) q.A (eval b q.env) (fun y s₂ => wpAny (model q.prog q.w) q.A (f x y) Q E s₂) E s₁) E s :=
  thn (ha E s k hf) fun x s1 ⟨v1, k1⟩ => thn (hb E s1 (k.trans (Kp.k k1)) (hF.mono _ _ (Kp.k k1).n hf)) fun y s2 ⟨v2, k2⟩ => h x y s2 (Kp.trans k1 k2) (v1.k (Kp.k k2)) v2
theorem q_int {i : Int} {j : Nat} : QE q F (.Constant (.int i) j pos) (.i i) := fun E s k f => wpAny_Constant_int ⟨⟨_, rfl⟩, Kp.tok s _⟩
theorem q_bool {x : Bool} {j : Nat} : QE q F (.Constant (.bool x) j pos) (.b x) := fun E s k f => Constant_bool ⟨rfl, Kp.refl s⟩
theorem q_loc {x : Str} (ok : q.Ok) (hk : q.env.kindOf x = some .local) (hF : ∀ h, F h → ∃ m v, h.Ns q.env.locals m ∧ m x = some v ∧ VD h d v) (hd : (x == ("__debug__" : Str)) = false := by decide) : QE q F (.Name x pos) d := fun E s k f => by
  obtain ⟨m, v, hn, hm, hv⟩ := hF _ f
  exact wpAny_Name (wpAny_loadName_local ok.kind hk hn hm ⟨hv, Kp.refl s⟩) hd
theorem q_free {x : Str} (ok : q.Ok) (hk : q.env.kindOf x = some .free) (hF : ∀ h, F h → ∃ c v, q.env.cells.lookup x = some c ∧ h.IsCell c (some v) ∧ VD h d v) (hd : (x == ("__debug__" : Str)) = false := by decide) (hcd : (x == ("__classdict__" : Str)) = false := by decide) : QE q F (.Name x pos) d := fun E s k f => by
  obtain ⟨c, v, hc, hcell, hv⟩ := hF _ f
  exact wpAny_Name (wpAny_loadName_free ok.kind hk hc hcell ⟨hv, Kp.refl s⟩ hcd) hd
theorem qld_glob {E : Value → Shared → Prop} {s : Shared} {x : Str} {u : Value} {Q : Value → Shared → Prop} (ok : q.Ok) (k : HK q.base s.heap) (hg : q.env.kindOf x = some .globalImplicit) (hm : q.mg x = some u) (h : Q u s) (hd : (x == ("__debug__" : Str)) = false := by decide) :
    wpAny (model q.prog q.w) q.A (eval (.Name x pos) q.env) Q E s := Calls.Name_function_global ok.kind hg (Calls.loadGlobal_global (by rw [ok.glob]; exact ok.mod.glob.keeps k) hm h) hd
theorem qld_blt {E : Value → Shared → Prop} {s : Shared} {x : Str} {u : Value} {Q : Value → Shared → Prop} (ok : q.Ok) (k : HK q.base s.heap) (hg : q.env.kindOf x = some .globalImplicit) (hm : q.mg x = none) (hv : bootBuiltins x = some u) (h : Q u s) (hn : x ≠ "__name__" := by decide)
    (hd : (x == ("__debug__" : Str)) = false := by decide) : wpAny (model q.prog q.w) q.A (eval (.Name x pos) q.env) Q E s := by
  obtain ⟨mb, h1, h2⟩ := ok.mod.blt
  exact Calls.Name_function_global ok.kind hg (Calls.loadGlobal_builtin (by rw [ok.glob]; exact ok.mod.glob.keeps k) hm (by rw [ok.blt]; exact h1.keeps k) ((h2 x hn).trans hv) h) hd
theorem q_globI {x : Str} {n : Int} {t : Tok} (ok : q.Ok) (hg : q.env.kindOf x = some .globalImplicit) (hm : q.mg x = some (.int n t)) (hd : (x == ("__debug__" : Str)) = false := by decide) : QE q F (.Name x pos) (.i n) := fun E s k f => qld_glob ok k hg hm ⟨⟨t, rfl⟩, Kp.refl s⟩ hd
theorem q_sub {i j : Int} (hF : Fa F) (ha : QE q F a (.i i)) (hb : QE q F b (.i j)) : QE q F (.BinOp a .Sub b pos) (.i (i - j)) := fun E s k f => wpAny_BinOp (two hF ha hb k f fun x y s' kp v1 v2 => by
  obtain ⟨t, rfl⟩ := v1
  obtain ⟨u, rfl⟩ := v2
  exact sub_int ⟨⟨_, rfl⟩, Kp.trans kp (Kp.tok s' _)⟩)
/-- comparisons of ints -/
def CmpI (q : QX) (op : CmpOp) (g : Int → Int → Bool) : Prop := ∀ (i j : Int) (t u : Tok) (Q : Value → Shared → Prop) (E : Value → Shared → Prop) (s : Shared), Q (.bool (g i j)) s → wpAny (model q.prog q.w) q.A (compareOp op (.int i t) (.int j u)) Q E s
theorem cmp_lt : CmpI q .Lt fun i j => decide (i < j) := fun _ _ _ _ _ _ _ h => lt_int h
theorem cmp_le : CmpI q .LtE fun i j => decide (i ≤ j) := fun _ _ _ _ _ _ _ h => le_int h
theorem cmp_ne : CmpI q .NotEq fun i j => !decide (i = j) := fun _ _ _ _ _ _ _ h => ne_int (by rw [bne, Bool.beq_eq_decide_eq]; exact h)
theorem cmp_gt : CmpI q .Gt fun i j => decide (j < i) := fun _ _ _ _ _ _ _ h => gt_int h
theorem q_cmp {op : CmpOp} {g : Int → Int → Bool} {i j : Int} (hF : Fa F) (hc : CmpI q op g) (ha : QE q F a (.i i)) (hb : QE q F b (.i j)) (hm : behindInMarks op b = false := by with_unfolding_all rfl) : QE q F (.Compare a [op] [b] pos) (.b (g i j)) := fun E s k f => wpAny_Compare1 (two hF ha hb k f fun x y s' kp v1 v2 => by
  obtain ⟨t, rfl⟩ := v1
  obtain ⟨u, rfl⟩ := v2
  exact hc i j t u _ _ _ ⟨rfl, kp⟩) hm
theorem q_chain {op op' : CmpOp} {g g' : Int → Int → Bool} {i j l : Int} (hF : Fa F) (h1 : CmpI q op g) (h2 : CmpI q op' g') (ha : QE q F a (.i i)) (hb : QE q F b (.i j)) (hc : QE q F c (.i l)) (hm : lastMarks [op, op'] [b, c] = false := by with_unfolding_all rfl) : QE q F (.Compare a [op, op'] [b, c] pos) (.b (g i j && g' j l)) := fun E s k f =>
  Compare_chain (thn (ha E s k f) fun x s1 ⟨v1, k1⟩ => chain_link (thn (hb E s1 (k.trans (Kp.k k1)) (hF.mono _ _ (Kp.k k1).n f)) fun y s2 ⟨v2, k2⟩ => by
    obtain ⟨t, rfl⟩ := v1
    obtain ⟨u, rfl⟩ := v2
    have k3 := Kp.trans k1 k2
    refine h1 i j t u _ _ _ (wpAny_truthy_bool ?_)
    cases g i j with
    | false => exact ite_ff ⟨rfl, k3⟩
    | true =>
      refine ite_tt (chain_last (thn (hc E s2 (k.trans (Kp.k k3)) (hF.mono _ _ (Kp.k k3).n f)) fun z s4 ⟨v4, k4⟩ => ?_))
      obtain ⟨t4, rfl⟩ := v4
      exact h2 j l u t4 _ _ _ ⟨by rw [Bool.true_and]; rfl, Kp.trans k3 k4⟩)) hm
theorem q_one {op : BoolOp} (h : QE q F a d) : QE q F (.BoolOp op [a] pos) d := fun E s k f => BoolOp_one (h E s k f)
theorem q_and {x y : Bool} (hF : Fa F) (ha : QE q F a (.b x)) (hb : x = true → QE q F (.BoolOp .And (b :: rest) pos) (.b y)) : QE q F (.BoolOp .And (a :: b :: rest) pos) (.b (x && y)) := fun E s k f => BoolOp_and (thn (ha E s k f) fun v s1 ⟨v1, k1⟩ => by
  have v1 : v = .bool x := v1
  subst v1
  refine wpAny_truthy_bool ?_
  cases x with
  | true => exact thn (hb rfl E s1 (k.trans (Kp.k k1)) (hF.mono _ _ (Kp.k k1).n f)) fun v s2 ⟨v2, k2⟩ => ⟨by rw [Bool.true_and]; exact v2, Kp.trans k1 k2⟩
  | false => exact ⟨rfl, k1⟩)
theorem q_not {x : Bool} (ha : QE q F a (.b x)) : QE q F (.UnaryOp .Not a pos) (.b (!x)) := fun E s k f => UnaryOp_ (thn (ha E s k f) fun v s1 ⟨v1, k1⟩ => by
  have v1 : v = .bool x := v1
  subst v1
  exact not_of (wpAny_truthy_bool ⟨rfl, k1⟩))
/-- tests -/
theorem qb_val {x : Bool} (h : QE q F e (.b x)) (he : ∀ whole, isTrue e q.env whole = (do let v ← whole; standAt e.pos; holding [v] (truthy v)) := by intro _; rfl) : QB q F e x := fun E s k f => isTrue_plain (thn (h E s k f) fun v s1 ⟨v1, k1⟩ => by
  have v1 : v = .bool x := v1
  subst v1
  exact wpAny_truthy_bool ⟨rfl, k1⟩) (he _)
theorem qb_cmp {op : CmpOp} {g : Int → Int → Bool} {i j : Int} (hF : Fa F) (hc : CmpI q op g) (ha : QE q F a (.i i)) (hb : QE q F b (.i j)) (hm : behindInMarks op b = false := by with_unfolding_all rfl) : QB q F (.Compare a [op] [b] pos) (g i j) := fun E s k f => wpAny_isTrue_Compare1 (two hF ha hb k f fun x y s' kp v1 v2 => by
  obtain ⟨t, rfl⟩ := v1
  obtain ⟨u, rfl⟩ := v2
  exact hc i j t u _ _ _ (wpAny_truthy_bool ⟨rfl, kp⟩)) hm
theorem qb_not {x : Bool} (h : QB q F a x) : QB q F (.UnaryOp .Not a pos) (!x) := fun E s k f => isTrue_not (thn (h E s k f) fun c s1 ⟨e, k1⟩ => ⟨by rw [e], k1⟩)
theorem qw_or1 {x : Bool} (ha : QB q F a x) : QBw q F (.BoolOp .Or [a] pos) x := fun wh E s k f => isTrue_or (thn (ha E s k f) fun c s1 ⟨e, k1⟩ => by
  subst e
  cases c with
  | false => exact isTrue_or_nil ⟨rfl, k1⟩
  | true => exact ⟨rfl, k1⟩)
theorem qw_or {x y : Bool} (hF : Fa F) (ha : QB q F a x) (hb : x = false → QBw q F (.BoolOp .Or (b :: rest) pos) y) : QBw q F (.BoolOp .Or (a :: b :: rest) pos) (x || y) := fun wh E s k f => isTrue_or (thn (ha E s k f) fun c s1 ⟨e, k1⟩ => by
  subst e
  cases c with
  | true => exact ⟨rfl, k1⟩
  | false => exact thn (hb rfl wh E s1 (k.trans (Kp.k k1)) (hF.mono _ _ (Kp.k k1).n f)) fun v s2 ⟨v2, k2⟩ => ⟨by rw [Bool.false_or]; exact v2, Kp.trans k1 k2⟩)
theorem QBw.pt {x : Bool} (h : QBw q F e x) : QB q F e x := fun E s k f => h _ E s k f
/-! calls -/
theorem qa_nil : QA q F [] [] := fun pos E s k f => Calls.spliced_nil ⟨rfl, Kp.refl s⟩
theorem qa_cons (hF : Fa F) (h : QE q F e d) (r : QA q F es ds) (hs : starEach (e :: es) q.env = (false, eval e q.env) :: starEach es q.env := by rfl) : QA q F (e :: es) (d :: ds) := fun pos E s k f => by
  rw [hs]
  show wpAny _ _ (spliced ((false, eval e q.env) :: backTo pos (starEach es q.env))) _ _ s
  exact Calls.spliced_cons (thn (h E s k f) fun x s1 ⟨v1, k1⟩ => thn (r pos E s1 (k.trans (Kp.k k1)) (hF.mono _ _ (Kp.k k1).n f)) fun xs s2 ⟨v2, k2⟩ => ⟨⟨x, xs, rfl, v1.k (Kp.k k2), v2⟩, Kp.trans k1 k2⟩)
theorem q_len (ok : q.Ok) (hF : Fa F) (hm : q.mg "len" = none) (h : QE q F a (.t ds)) (hg : q.env.kindOf "len" = some .globalImplicit := by rfl) (he : starEach [a] q.env = (false, eval a q.env) :: starEach [] q.env := by rfl) (hpl : (backTo pos (starEach [] q.env)).any (·.1) = false := by rfl) : QE q F (.Call (.Name "len" p) [a] [] pos) (.i ds.length) := fun E s k f =>
  wpAny_Call_Name_kw (qld_blt ok k hg hm PySem.boot_len (PyProof.Rows.callWith_builtin1 (thn (qa_cons hF h qa_nil he pos E s k f) fun ys s1 ⟨v1, k1⟩ => by
    obtain ⟨y, r, e, ⟨t, its, e2, p, z, vs⟩, e3⟩ := v1
    have e3 : r = [] := e3
    subst e3 e e2
    refine len_tuple p (by have := line63; simp only [List.size_toArray]; omega) ⟨?_, Kp.trans k1 (Kp.tok s1 _)⟩
    rw [List.size_toArray, vs.len]
    exact ⟨_, rfl⟩) he hpl))
theorem q_ix {i : Int} (hF : Fa F) (ha : QE q F a (.t ds)) (hb : QE q F b (.i i)) (h : L2.atI ds i = some d) (hz : ds.length ≤ 100000) (hs : PlainIx b := by exact fun _ _ => rfl) : QE q F (.Subscript a b pos) d := fun E s k f => Subscript_ (two hF ha hb k f fun x y s' kp v1 v2 => by
  obtain ⟨t, its, rfl, p, z, vs⟩ := v1
  obtain ⟨u, rfl⟩ := v2
  obtain ⟨j, h1, h2, h3, h4, h5⟩ := atI_get h
  obtain ⟨v, e, hv⟩ := vs.at h2
  have hl := vs.len
  have hn := line63
  exact subscriptTail_builtinR (x := v) p.typeIs slot_tuple_getitem.lookup (getItem_tuple (j := j) (Q := fun r s9 => r = v ∧ (VD s9.heap d r ∧ Keeps s s9)) p (by omega) (by omega) (by rw [List.size_toArray, hl]; exact h1) (by simpa using e) ⟨rfl, hv, kp⟩) (hs _ _))
/-- isinstance(e, T) -/
def topD : D → Bool
  | .c _ => false
  | .s _ => false
  | _ => true
theorem kitx_of {K : PySem.W.Frag} {h : Heap} {v : Value} (x : VD h d v) (ht : topD d = true) : ∃ P : Heap → Prop, PySem.W.KitX K v (.type (tyN d)) P ∧ P h ∧ v ≠ .builtin "__main__.__loader__#opaque" := by
  cases d with
  | non => rw [show v = .none from x]; exact ⟨_, PySem.W.kitx_none, True.intro, fun z => nomatch z⟩
  | b y => rw [show v = .bool y from x]; exact ⟨_, PySem.W.kitx_bool, True.intro, fun z => nomatch z⟩
  | i n =>
    obtain ⟨t, rfl⟩ := x
    exact ⟨_, PySem.W.kitx_int, True.intro, fun z => nomatch z⟩
  | t xs =>
    obtain ⟨a, its, rfl, ⟨o, h1, h2, _⟩, _⟩ := x
    exact ⟨_, PySem.W.kitx_tuple, ⟨o, h1, h2⟩, fun z => nomatch z⟩
  | c _ => cases ht
  | s _ => cases ht
theorem q_isi {T : String} {x : Str} {r : Bool} {p2 : Pos} (ok : q.Ok) (hF : Fa F) (hm : q.mg "isinstance" = none) (hmT : q.mg x = none) (hvT : bootBuiltins x = some (.type T)) (h : QE q F a d) (hk : PySem.W.kitOne q.K (.type (tyN d)) (.type T) = some r) (ht : topD d = true := by rfl) (hg : q.env.kindOf "isinstance" = some .globalImplicit := by rfl) (hgT : q.env.kindOf x = some .globalImplicit := by rfl)
    (hnT : x ≠ "__name__" := by decide) (hdT : (x == ("__debug__" : Str)) = false := by decide) (he : starEach [a, .Name x p2] q.env = (false, eval a q.env) :: starEach [.Name x p2] q.env := by rfl) (he2 : starEach [.Name x p2] q.env = (false, eval (.Name x p2) q.env) :: starEach [] q.env := by rfl)
    (hpl : (backTo pos (starEach [.Name x p2] q.env)).any (·.1) = false := by rfl) : QE q F (.Call (.Name "isinstance" p) [a, .Name x p2] [] pos) (.b r) := fun E s k f => by
  refine wpAny_Call_Name_kw (qld_blt ok k hg hm (show bootBuiltins (Str.ofString "isinstance") = some (Value.builtin "isinstance") by decide +kernel) (PyProof.Rows.callWith_builtin1 ?_ he hpl))
  rw [he]
  show wpAny _ _ (spliced ((false, eval a q.env) :: backTo pos (starEach [.Name x p2] q.env))) _ _ s
  refine Calls.spliced_cons (thn (h E s k f) fun v s1 ⟨v1, k1⟩ => ?_)
  rw [he2]
  show wpAny _ _ (spliced ((false, eval (.Name x p2) q.env) :: backTo pos (starEach [] q.env))) _ _ s1
  refine Calls.spliced_cons (qld_blt ok (k.trans (Kp.k k1)) hgT hmT hvT (Calls.spliced_nil ?_) hnT hdT)
  obtain ⟨P, Z, hp, hx⟩ := kitx_of (K := q.K) v1 ht
  exact PySem.W.kia_one Z (ok.mod.kin.keeps (k.trans (Kp.k k1))) hp hk hx fun tk => ⟨rfl, Kp.trans k1 (Kp.tok s1 _)⟩
/-- what a call of the def at f gives: from this room, with these arguments -/
def QF (prog : Program) (w : World) (base : Heap) (f : Addr) (n : Nat) (ds : List D) (r : D) : Prop := ∀ (A : Around) (s : Shared) (us : List Value) (R : Value → Shared → Prop) (E : Value → Shared → Prop), A.handled = none → A.depth + n < recursionLimit → HK base s.heap → VDs s.heap ds us →
  (∀ y s', VD s'.heap r y → Keeps s s' → R y s') → wpAny (model prog w) A (call (.ref f) us) R E s
theorem q_call {f : Addr} {x : Str} {n : Nat} {r : D} (ok : q.Ok) (G : QF q.prog q.w q.base f n ds r) (hr : q.A.depth + n < recursionLimit) (hm : q.mg x = some (.ref f)) (hk : PySem.W.keepIn q.K (.ref f) = true) (h : QA q F (e :: es) ds) (hg : q.env.kindOf x = some .globalImplicit := by rfl) (hd : (x == ("__debug__" : Str)) = false := by decide)
    (he : starEach (e :: es) q.env = (false, eval e q.env) :: starEach es q.env := by rfl) (hpl : (backTo pos (starEach es q.env)).any (·.1) = false := by rfl) : QE q F (.Call (.Name x p) (e :: es) [] pos) r := fun E s k f => by
  refine wpAny_Call_Name_kw (qld_glob ok k hg hm ?_ hd)
  exact PySem.W.callWith_K (h₀ := q.base) ok.mod.kin hk (thn (h pos E s k f) fun us s1 ⟨v1, k1⟩ => ⟨ok.mod.kin.keeps (k.trans (Kp.k k1)), G q.A s1 us _ E ok.hd hr (k.trans (Kp.k k1)) v1 fun y s' hv k2 => ⟨hv, Kp.trans k1 k2⟩⟩) he hpl
/-- statements that return r -/
def QS (q : QX) (F : Heap → Prop) (sts : List Stmt) (r : D) : Prop := ∀ (E : Value → Shared → Prop) (s : Shared), HK q.base s.heap → F s.heap → wpAny (model q.prog q.w) q.A (execs sts q.env) (fun fl s' => ∃ y, fl = .ret y ∧ VD s'.heap r y ∧ Keeps s s') E s
theorem qs_ret {r : D} (h : QE q F e r) : QS q F (.Return (some e) pos :: rest0) r := fun E s k f => wpAny_execs_cons (wpAny_Return_some (thn (h E s k f) fun y s1 ⟨v1, k1⟩ => ⟨y, rfl, v1, k1⟩))
theorem qs_ifF {r : D} {body rest0 : List Stmt} (hF : Fa F) (h : QB q F c false) (h2 : QS q F rest0 r) : QS q F (.If c body [] pos :: rest0) r := fun E s k f => wpAny_execs_cons (wpAny_If (thn (h E s k f) fun b s1 ⟨e, k1⟩ => by
  subst e
  exact wpAny_execs_nil (thn (h2 E s1 (k.trans (Kp.k k1)) (hF.mono _ _ (Kp.k k1).n f)) fun fl s2 ⟨y, e, v, k2⟩ => ⟨y, e, v, Kp.trans k1 k2⟩)))
/-- a def by its body -/
theorem qf_of {prog : Program} {w : World} {base : Heap} {K : PySem.W.Frag} {mg : Str → Option Value} {x qual : Str} {st : Stmt} {f : Addr} {fd : FuncData} {ps : List Str} {n : Nat} {ds : List D} {r : D} (G : Fun K x qual st f fd) (md : L2.Mod K mg base) (hb : Binds K fd ps []) (hl : ds.length = ps.length)
    (hcell : ∀ y ∈ (defScope st).names, y.2 ≠ .cell) (hloc : ∀ y ∈ ps, (defScope st).names.lookup y = some .local) (hco : (defScope st).isCoroutine = false) (hgen : (defScope st).isGenerator = false) (hk : (defScope st).kind = .function)
    (body : ∀ (kV doc pm : Value) (an : Option Addr) (cdv ct : Value) (A : Around) (L : Addr), A.handled = none → A.depth + n < recursionLimit → QS ⟨prog, w, A, callEnv (PySem.W.fnOf x qual (defArgs st) (defBody st) (defScope st) .none kV doc pm an cdv ct) L f, base, K, mg⟩ (fun h => ∃ us, h.Ns L (fun y => (ps.zip us).reverse.lookup y) ∧ VDs h ds us) (defBody st) r) : QF prog w base f (n + 1) ds r := fun A s us R E hA hd k hv hR => by
  have lim : s.heap.NoLimit := md.nolimit.keeps k
  have kin : K.In s.heap := md.kin.keeps k
  have hlen : us.length = ps.length := by rw [hv.len, hl]
  have hbd := hb s us kin (by rw [List.append_nil]; exact hlen)
  rw [List.append_nil] at hbd
  obtain ⟨oc, od, kV, doc, pm, an, cdv, ct, osl, rfl, lk, hcd⟩ := G.ex
  refine wpAny_call (codeAny_call_def (by omega) (kin _ _ lk) rfl lim (PySem.W.codeRec_of kin hcd) rfl hbd hcell (fun y hy => hloc y.1 (List.of_mem_zip hy).1) (fun h0 hn h1 => ?_) hco hgen hk)
  refine wpAny_mono (body kV doc pm an cdv ct (A.deeper _) _ hA (by show A.depth + 1 + n < _; omega) _ { s with heap := h0, toks := s.toks + (ps.zip us).length } (k.trans h1) ⟨us, hn, hv.k h1⟩) (fun fl s' ⟨y, e, v, k1⟩ => ?_) (fun _ _ z => z)
  subst e
  exact hR y s' v (Kp.trans ⟨h0, _, rfl, h1⟩ k1)
end
end QL
end

section
set_option Elab.async false
set_option linter.all false
set_option maxRecDepth 100000
set_option maxHeartbeats 4000000
/-! D10: all, any of a generator expression whose elements are quiet. -/
namespace QL
open PySem PySem.Spec PyProof.Rows L2 DL
/-- any heap of the frame C with these names -/
structure GScp (env : Env) (scope : Scope) : Prop where
  kind : scope.kind = .function
  co : scope.isCoroutine = false
  cell : ∀ y ∈ scope.names, y.2 ≠ .cell
  dot : scope.names.lookup (".0" : Str) = some NameKind.local
  free : ∀ y ∈ scope.names, y.2 = .free → ∃ c, env.cells.lookup y.1 = some c
/-- one name, read off the locals -/
def F1 (C : Addr) (x : Str) (d : D) (G : Heap → Prop) (h : Heap) : Prop := (∃ m v, h.Ns C m ∧ m x = some v ∧ VD h d v) ∧ G h
def F2 (C : Addr) (x y : Str) (d1 d2 : D) (G : Heap → Prop) (h : Heap) : Prop := (∃ m v u, h.Ns C m ∧ m x = some v ∧ m y = some u ∧ VD h d1 v ∧ VD h d2 u) ∧ G h
theorem ns_n {h h' : Heap} {C : Addr} {m : Str → Option Value} (x : h.Ns C m) (k : HN h h') : h'.Ns C m := by
  obtain ⟨o, es, ep, e, d, r⟩ := x
  exact ⟨o, es, ep, k C o e (fun vs z => by rw [d] at z; cases z), d, r⟩
theorem fa1 {C : Addr} {x : Str} {d : D} {G : Heap → Prop} (g : Fa G) : Fa (F1 C x d G) := ⟨fun h h' k ⟨⟨m, v, a, b, c⟩, q⟩ => ⟨⟨m, v, ns_n a k, b, c.n k⟩, g.mono _ _ k q⟩⟩
theorem fa2 {C : Addr} {x y : Str} {d1 d2 : D} {G : Heap → Prop} (g : Fa G) : Fa (F2 C x y d1 d2 G) := ⟨fun h h' k ⟨⟨m, v, u, a, b, c, e, f⟩, q⟩ => ⟨⟨m, v, u, ns_n a k, b, c, e.n k, f.n k⟩, g.mono _ _ k q⟩⟩
section
variable {X : Cx} {pins : List (Addr × Obj)} {σ : L2.St} {H1 : Hp} {s1 : Shared}
/-- the generator g is ready to be walked -/
def Ready (X : Cx) (pins : List (Addr × Obj)) (σ : L2.St) (H1 : Hp) (P : Addr) (n : Nat) (tr : Nat → Bool) (g : Addr) (s5 : Shared) : Prop :=
  ∃ (fp wr : List Addr) (G : Array GenState → Array GenState → Prop) (F : Nat → Value → Prop) (St : Nat → Shared → Prop),
    WalksS X.prog X.w X.A.in1 g fp wr G n F St ∧ St 0 s5 ∧ TruthOf X.prog X.w X.A.in1 F tr ∧ ∀ s', Moved wr G s5 s' → ∃ H2, GxR.Tabbed P H1 H2 ∧ Inv X pins σ H2 s'
/-- the iterator of one name's walk -/
def It1 (X : Cx) (s1 : Shared) (P : Addr) (n : Nat) (item : Nat → Heap → Value → Prop) (it : Value) (s2 : Shared) : Prop :=
  ∃ (Ia : Addr) (fp wr : List Addr) (Pf : Nat → Value → Prop) (St0 : Nat → Heap → Prop), it = .ref Ia ∧ (∀ A' : Around, A'.handled = none → Walks X.prog X.w A' Ia fp wr n Pf St0) ∧ St0 0 s2.heap ∧ (∀ b ∈ fp, b < s2.heap.objs.size) ∧ P ∉ fp ∧ (∀ b ∈ wr, s1.heap.objs.size ≤ b) ∧
    (∀ i v, Pf i v → item i s1.heap v) ∧ (∃ h2 tk, s2 = { s1 with heap := h2, toks := tk }) ∧ HK s1.heap s2.heap ∧ s1.heap.objs.size ≤ s2.heap.objs.size
def It2 (X : Cx) (s1 : Shared) (P : Addr) (n : Nat) (item : Nat → Heap → Value → Value → Prop) (it : Value) (s2 : Shared) : Prop :=
  ∃ (Ia : Addr) (fp wr : List Addr) (Pf : Nat → Array Value → Prop) (St0 : Nat → Heap → Prop) (Mid : Nat → Addr → Heap → Prop), it = .ref Ia ∧ (∀ A' : Around, A'.handled = none → WalksU X.prog X.w A' Ia fp wr n Pf St0 Mid) ∧ St0 0 s2.heap ∧ (∀ b ∈ fp, b < s2.heap.objs.size) ∧ P ∉ fp ∧ (∀ b ∈ wr, s1.heap.objs.size ≤ b) ∧
    (∀ i vs, Pf i vs → ∃ va vb, vs = #[va, vb] ∧ item i s1.heap va vb) ∧ (∃ h2 tk, s2 = { s1 with heap := h2, toks := tk }) ∧ HK s1.heap s2.heap ∧ s1.heap.objs.size ≤ s2.heap.objs.size
/-- what stands where the generator's elements run: the walked heap's things but the table's -/
theorem hn_but {h h' : Heap} {P : Addr} {ps : Array Value} (hP : h.get? P = some { cls := .none, data := .fields ps }) (k : ∀ b o, b ≠ P → h.get? b = some o → h'.get? b = some o) : HN h h' := fun b o e d => k b o (fun z => by
  rw [z, hP] at e
  cases e
  exact d ps rfl) e
/-- behind the walk: the table may have grown, all else is kept -/
theorem after_gen {P : Addr} {ps ps' : Array Value} {wr : List Addr} {n9 g : Nat} {h3 h5 : Heap} {gs : GenState} {tk : Nat} {s' : Shared} (I1 : Inv X pins σ H1 s1) (hP : H1 P = some (.tbl ps)) (hmore : ∃ more, ps' = ps ++ more) (ht3 : TriplesOk ps'.toList) (hw : ∀ b ∈ wr, s1.heap.objs.size ≤ b)
    (keep3 : ∀ b u, b ≠ P → s1.heap.get? b = some u → h3.get? b = some u) (hP3 : h3.get? P = some { cls := .none, data := .fields ps' }) (hn9 : s1.heap.objs.size ≤ n9) (hk5 : ∀ b o, h3.get? b = some o → h5.get? b = some o) (hgb : gs.bare = true)
    (hm : Moved (n9 :: wr) (GenOnlyQ g) { s1 with gens := s1.gens.push gs, toks := tk, heap := h5 } s') : ∃ H2, GxR.Tabbed P H1 H2 ∧ Inv X pins σ H2 s' := by
  obtain ⟨more, em⟩ := hmore
  have nwr : ∀ b u, s1.heap.get? b = some u → b ∉ n9 :: wr := fun b u e hb => by
    have hl : b < s1.heap.objs.size := Heap.lt_size e
    rcases List.mem_cons.mp hb with z | z
    · rw [z] at hl
      exact absurd hn9 (Nat.not_le.mpr hl)
    · exact absurd (hw b z) (Nat.not_le.mpr hl)
  have hPs : s1.heap.get? P = some { cls := .none, data := .fields ps } := I1.hok P _ hP
  have J := GxR.inv_tab (more := more) (h' := s'.heap) (g' := s'.gens) (d' := s'.drawn) (t' := s'.toks) I1 hP (fun b u hb e => hm.heap b u (nwr b u e) (hk5 b u (keep3 b u hb e)))
    (by rw [← em]; exact hm.heap P _ (nwr P _ hPs) (hk5 P _ hP3)) (AllBare.movedS (I1.bare.push hgb) hm)
  rw [GxR.sh_eta s1 s' hm.os] at J
  exact ⟨upd H1 P (.tbl (ps ++ more)), ⟨⟨ps ++ more, upd_same, by rw [← em]; exact ht3⟩, fun b hb => upd_ne hb⟩, J⟩
theorem gen1 {c P : Addr} {elt iter : Expr} {x : Str} {px gpos : Pos} {scope : Scope} {k : Nat} {tr : Nat → Bool} {ds : List D} {Gf : Heap → Prop} {Q' : Value → Shared → Prop} {s : Shared} (hr : Room k X.A) (TB : GxR.TabB X.base X.mg c P) (hcode : X.env.code = .ref c) (S : GScp X.env scope) (hx : scope.names.lookup x = some .local)
    (hs : ∀ v, genFold iter X.env v = pure v) (hG : Fa Gf)
    (h : wpAny (model X.prog X.w) X.A (eval iter X.env) (fun xv s0 => ∃ H1 s1, Inv X pins σ H1 s1 ∧ GxR.TabG H1 P ∧ Gf s1.heap ∧ (∀ g s5, Ready X pins σ H1 P ds.length tr g s5 → Q' (.ref g) s5) ∧
      wpAny (model X.prog X.w) X.A (pyIter xv) (It1 X s1 P ds.length fun i h v => ∃ d, ds[i]? = some d ∧ VD h d v) X.xe s0) X.xe s)
    (hel : ∀ i d, ds[i]? = some d → ∀ (A' : Around) (C : Addr) (code : Value), A'.handled = none → A'.depth ≤ X.A.depth + 1 → A'.units ≤ X.A.units + 8 →
      QX.Ok ⟨X.prog, X.w, A', genEnv scope (cloFrom X.env.cells scope.names []) C code builtinsNs X.env, X.base, X.K, X.mg⟩ → QE ⟨X.prog, X.w, A', genEnv scope (cloFrom X.env.cells scope.names []) C code builtinsNs X.env, X.base, X.K, X.mg⟩ (F1 C x d Gf) elt (.b (tr i))) :
    wpAny (model X.prog X.w) X.A (eval (.GeneratorExp elt [⟨.Name x px, iter, [], 0⟩] scope gpos) X.env) Q' X.xe s := by
  refine wpAny_GeneratorExp_walksQD hr.hd S.co (closure_ok S.free) S.cell S.dot hx S.kind (by have := hr.dp; omega) ?_ hs
  refine thn h fun xv s0 ⟨H1, s1, I1, ⟨ps, hP, ht⟩, hGf, hQ, hit⟩ => ?_
  refine thn hit fun it s2 hh => ?_
  obtain ⟨Ia, fp, wr, Pf, St0, rfl, W, hst, hfp, hPf, hwr, hitem, ⟨h2, tk2, rfl⟩, hk2, sz12⟩ := hh
  have hPs : s1.heap.get? P = some { cls := .none, data := .fields ps } := I1.hok P _ hP
  have hPlt : P < s1.heap.objs.size := Heap.lt_size hPs
  have hP2 : h2.get? P = some { cls := .none, data := .fields ps } := hk2 P _ hPs
  have cd : PySem.W.CodeHd h2 c P := TB.code.keeps fun b u e => hk2 b u (I1.bk b u e)
  have lim2 : h2.NoLimit := I1.nolimit.keeps hk2
  have sz12 : s1.heap.objs.size ≤ h2.objs.size := sz12
  have cont : ∀ (code : Value) (h3 : Heap) (tk : Nat) (ps' : Array Value), Heap.ExtBut P h2 h3 → h2.objs.size ≤ h3.objs.size → h3.get? P = some { cls := .none, data := .fields ps' } → (∃ more, ps' = ps ++ more) → TriplesOk ps'.toList →
      wpAny (model X.prog X.w) X.A (builtinsFor X.env.globals X.env.builtins) (fun bi s₄ =>
        ∃ Ia' fp wr n₀ Pf St₀ pz F, Value.ref Ia = .ref Ia' ∧ (∀ A' : Around, A'.handled = none → Walks X.prog X.w A' Ia' fp wr n₀ Pf St₀) ∧ St₀ 0 s₄.heap ∧ (∀ b ∈ fp, b < s₄.heap.objs.size) ∧ s₄.heap.NoLimit ∧ cStatics ∉ wr ∧
          (∀ href : Heap, (∀ b o, s₄.heap.get? b = some o → href.get? b = some o) →
            QuietGenD X.prog X.w (genEnv scope (cloFrom X.env.cells scope.names []) s₄.heap.objs.size code bi X.env) x [] elt (List.range s₄.heap.objs.size) wr Pf pz F href (X.A.depth + 1) (X.A.units + 8)) ∧
          (∀ a h₅ tk gs, gs.bare = true → s₄.heap.objs.size < a → h₅.objs.size = a + 1 → (∀ b o, s₄.heap.get? b = some o → h₅.get? b = some o) →
            WalksS X.prog X.w X.A.in4 a (a :: s₄.heap.objs.size :: List.range s₄.heap.objs.size) (s₄.heap.objs.size :: wr) (GenOnlyQ s₄.gens.size) (passing pz n₀ 0).length
              (fun j y => ∃ i, (passing pz n₀ 0)[j]? = some i ∧ F i y) (GenAt X.prog X.w X.A.in4 a s₄.gens.size s₄.heap.objs.size (List.range s₄.heap.objs.size) wr pz n₀ F) →
            GenAt X.prog X.w X.A.in4 a s₄.gens.size s₄.heap.objs.size (List.range s₄.heap.objs.size) wr pz n₀ F 0 { s₄ with gens := s₄.gens.push gs, toks := tk, heap := h₅ } →
            Q' (.ref a) { s₄ with gens := s₄.gens.push gs, toks := tk, heap := h₅ })) X.xe { s1 with heap := h3, toks := tk } := by
    intro code h3 tk ps' hx3 hsz hP3 hmore ht3
    obtain ⟨bm, ob, e1, e2, e3, e4, e5, e6, e7, e8⟩ := TB.bm
    have hcP : cStatics ≠ P := fun e => by
      obtain ⟨_, hns, _⟩ := I1.nolimit
      obtain ⟨o', es, ep, ho, hd, _⟩ := hns
      rw [e, hPs] at ho
      cases ho
      cases hd
    have hcl : cStatics < s1.heap.objs.size := let ⟨_, hns, _⟩ := I1.nolimit; hns.lt
    have keep3 : ∀ b u, b ≠ P → s1.heap.get? b = some u → h3.get? b = some u := fun b u hb e => hx3 b u hb (hk2 b u e)
    refine wpAny_builtinsFor (m := X.mg) (by rw [I1.ok.glob]; exact ((I1.mod.glob.keeps I1.bk).keeps hk2).extBut hx3 TB.gP) e1 e2 (keep3 _ _ e4 (I1.bk _ _ e5)) e6 e7 e8 ?_
    refine ⟨Ia, fp, wr, ds.length, Pf, St0, (fun _ => true), (fun i y => i < ds.length ∧ y = .bool (tr i)), rfl, W, ?_, ?_, lim2.extBut hx3 hcP, ?_, ?_, ?_⟩
    · exact (W X.A hr.hd).frame _ _ _ hst fun b hb u e => hx3 b u (fun z => hPf (z ▸ hb)) e
    · exact fun b hb => Nat.lt_of_lt_of_le (hfp b hb) hsz
    · exact fun z => absurd (hwr _ z) (Nat.not_le.mpr hcl)
    · intro href hhref
      have up : ∀ (t : Shared), (∀ b ∈ List.range h3.objs.size, b ∉ wr → ∀ o, href.get? b = some o → t.heap.get? b = some o) → ∀ b o, b ≠ P → s1.heap.get? b = some o → t.heap.get? b = some o := fun t hk b o hb e => by
        have e3 := keep3 b o hb e
        exact hk b (List.mem_range.mpr (Heap.lt_size e3)) (fun z => absurd (hwr _ z) (Nat.not_le.mpr (Heap.lt_size e))) o (hhref b o e3)
      refine ⟨fun A' E' i v s₂ m₂ hA hD hU hPv hn hm hk => ?_, fun A' E' i v s₂ m₂ hA hD hU hPv hp hn hm hk => ?_⟩
      · simp only [List.forIn_nil]
        exact wpAny_pure ⟨rfl, Kp.refl _⟩
      · obtain ⟨d, hd, hv⟩ := hitem i v hPv
        have u2 := up s₂ hk
        have n2 : HN s1.heap s₂.heap := hn_but hPs u2
        have kb : HK X.base s₂.heap := fun b o e => u2 b o (fun z => by
          have := (I1.bs b o e).2
          rw [z, hP] at this
          cases this) (I1.bk b o e)
        refine thn (hel i d hd A' h3.objs.size code hA hD hU ⟨I1.mod, I1.ok.glob, rfl, S.kind, hA⟩ E' s₂ kb ⟨⟨m₂, v, hn, hm, hv.n n2⟩, hG.mono _ _ n2 hGf⟩) fun y s3 ⟨e, kp⟩ => ⟨⟨(List.getElem?_eq_some_iff.mp hd).1, e⟩, kp⟩
    · intro g h5 tk5 gs hgb hag hsz5 hk5 W5 hgat
      simp only [GxR.passing_true, List.length_range] at W5
      refine hQ g _ ⟨_, _, _, _, _, W5.in4_1, hgat, ?_, fun s' hm => ?_⟩
      · intro j y sj Qj Ej hy hQj
        obtain ⟨i, hij, hi, e⟩ := hy
        obtain ⟨hj, ej⟩ := List.getElem?_eq_some_iff.mp hij
        rw [List.getElem_range] at ej
        subst ej
        subst e
        exact wpAny_truthy_bool hQj
      · exact after_gen I1 hP hmore ht3 hwr keep3 hP3 (Nat.le_trans sz12 hsz) hk5 hgb hm
  refine ⟨lim2, ?_⟩
  cases hf : codeAmong gpos ps.toList with
  | none =>
    refine wpAny_genexprCodeX hcode (cd.code hP2 ht) (cd.tab hP2) hf fun c' h' tk hx3 hge hlt hco' _ htab' _ => ?_
    obtain ⟨o1, vs, f1, tf, fl, tg, inF, tx, tt, op, _, _, _, _, _, _, _, _, _, htr, _⟩ := hco'
    exact cont _ h' tk _ hx3 (Nat.le_trans hge (Nat.le_of_lt hlt)) htab'.2 ⟨_, rfl⟩ htr
  | some cv =>
    refine wpAny_genexprCode_hit hcode (cd.code hP2 ht) hf ?_
    exact cont cv h2 tk2 ps (Heap.ExtBut.refl _ _) (Nat.le_refl _) hP2 ⟨#[], by simp⟩ ht
theorem gen2 {c P : Addr} {elt iter : Expr} {x y : Str} {px py pt gpos : Pos} {kt : Nat} {scope : Scope} {k : Nat} {tr : Nat → Bool} {ds1 ds2 : List D} {n : Nat} {Gf : Heap → Prop} {Q' : Value → Shared → Prop} {s : Shared} (hr : Room k X.A) (TB : GxR.TabB X.base X.mg c P) (hcode : X.env.code = .ref c) (S : GScp X.env scope) (hx : scope.names.lookup x = some .local) (hy : scope.names.lookup y = some .local) (hxy : x ≠ y)
    (hs : ∀ v, genFold iter X.env v = pure v) (hG : Fa Gf)
    (h : wpAny (model X.prog X.w) X.A (eval iter X.env) (fun xv s0 => ∃ H1 s1, Inv X pins σ H1 s1 ∧ GxR.TabG H1 P ∧ Gf s1.heap ∧ (∀ g s5, Ready X pins σ H1 P n tr g s5 → Q' (.ref g) s5) ∧
      wpAny (model X.prog X.w) X.A (pyIter xv) (It2 X s1 P n fun i h v u => i < n ∧ ∃ d1 d2, ds1[i]? = some d1 ∧ ds2[i]? = some d2 ∧ VD h d1 v ∧ VD h d2 u) X.xe s0) X.xe s)
    (hel : ∀ i d1 d2, i < n → ds1[i]? = some d1 → ds2[i]? = some d2 → ∀ (A' : Around) (C : Addr) (code : Value), A'.handled = none → A'.depth ≤ X.A.depth + 1 → A'.units ≤ X.A.units + 8 →
      QX.Ok ⟨X.prog, X.w, A', genEnv scope (cloFrom X.env.cells scope.names []) C code builtinsNs X.env, X.base, X.K, X.mg⟩ → QE ⟨X.prog, X.w, A', genEnv scope (cloFrom X.env.cells scope.names []) C code builtinsNs X.env, X.base, X.K, X.mg⟩ (F2 C x y d1 d2 Gf) elt (.b (tr i))) :
    wpAny (model X.prog X.w) X.A (eval (.GeneratorExp elt [⟨.Tuple [.Name x px, .Name y py] kt pt, iter, [], 0⟩] scope gpos) X.env) Q' X.xe s := by
  refine wpAny_GeneratorExp_walksQTD hr.hd S.co (closure_ok S.free) S.cell S.dot hx hy hxy S.kind (by have := hr.dp; omega) ?_ hs
  refine thn h fun xv s0 ⟨H1, s1, I1, ⟨ps, hP, ht⟩, hGf, hQ, hit⟩ => ?_
  refine thn hit fun it s2 hh => ?_
  obtain ⟨Ia, fp, wr, Pf, St0, Mid0, rfl, W, hst, hfp, hPf, hwr, hitem, ⟨h2, tk2, rfl⟩, hk2, sz12⟩ := hh
  have hPs : s1.heap.get? P = some { cls := .none, data := .fields ps } := I1.hok P _ hP
  have hPlt : P < s1.heap.objs.size := Heap.lt_size hPs
  have hP2 : h2.get? P = some { cls := .none, data := .fields ps } := hk2 P _ hPs
  have cd : PySem.W.CodeHd h2 c P := TB.code.keeps fun b u e => hk2 b u (I1.bk b u e)
  have lim2 : h2.NoLimit := I1.nolimit.keeps hk2
  have sz12 : s1.heap.objs.size ≤ h2.objs.size := sz12
  have cont : ∀ (code : Value) (h3 : Heap) (tk : Nat) (ps' : Array Value), Heap.ExtBut P h2 h3 → h2.objs.size ≤ h3.objs.size → h3.get? P = some { cls := .none, data := .fields ps' } → (∃ more, ps' = ps ++ more) → TriplesOk ps'.toList →
      wpAny (model X.prog X.w) X.A (builtinsFor X.env.globals X.env.builtins) (fun bi s₄ =>
        ∃ Ia' fp wr n₀ Pf St₀ Mid pz F, Value.ref Ia = .ref Ia' ∧ (∀ A' : Around, A'.handled = none → WalksU X.prog X.w A' Ia' fp wr n₀ Pf St₀ Mid) ∧ (∀ i vals, Pf i vals → ∃ va vb, vals = #[va, vb]) ∧ St₀ 0 s₄.heap ∧ (∀ b ∈ fp, b < s₄.heap.objs.size) ∧ s₄.heap.NoLimit ∧ cStatics ∉ wr ∧
          (∀ href : Heap, (∀ b o, s₄.heap.get? b = some o → href.get? b = some o) →
            QuietGenTD X.prog X.w (genEnv scope (cloFrom X.env.cells scope.names []) s₄.heap.objs.size code bi X.env) x y [] elt (List.range s₄.heap.objs.size) wr Pf pz F href (X.A.depth + 1) (X.A.units + 8)) ∧
          (∀ a h₅ tk gs, gs.bare = true → s₄.heap.objs.size < a → h₅.objs.size = a + 1 → (∀ b o, s₄.heap.get? b = some o → h₅.get? b = some o) →
            WalksS X.prog X.w X.A.in4 a (a :: s₄.heap.objs.size :: List.range s₄.heap.objs.size) (s₄.heap.objs.size :: wr) (GenOnlyQ s₄.gens.size) (passing pz n₀ 0).length
              (fun j y => ∃ i, (passing pz n₀ 0)[j]? = some i ∧ F i y) (GenAt X.prog X.w X.A.in4 a s₄.gens.size s₄.heap.objs.size (List.range s₄.heap.objs.size) wr pz n₀ F) →
            GenAt X.prog X.w X.A.in4 a s₄.gens.size s₄.heap.objs.size (List.range s₄.heap.objs.size) wr pz n₀ F 0 { s₄ with gens := s₄.gens.push gs, toks := tk, heap := h₅ } →
            Q' (.ref a) { s₄ with gens := s₄.gens.push gs, toks := tk, heap := h₅ })) X.xe { s1 with heap := h3, toks := tk } := by
    intro code h3 tk ps' hx3 hsz hP3 hmore ht3
    obtain ⟨bm, ob, e1, e2, e3, e4, e5, e6, e7, e8⟩ := TB.bm
    have hcP : cStatics ≠ P := fun e => by
      obtain ⟨_, hns, _⟩ := I1.nolimit
      obtain ⟨o', es, ep, ho, hd, _⟩ := hns
      rw [e, hPs] at ho
      cases ho
      cases hd
    have hcl : cStatics < s1.heap.objs.size := let ⟨_, hns, _⟩ := I1.nolimit; hns.lt
    have keep3 : ∀ b u, b ≠ P → s1.heap.get? b = some u → h3.get? b = some u := fun b u hb e => hx3 b u hb (hk2 b u e)
    refine wpAny_builtinsFor (m := X.mg) (by rw [I1.ok.glob]; exact ((I1.mod.glob.keeps I1.bk).keeps hk2).extBut hx3 TB.gP) e1 e2 (keep3 _ _ e4 (I1.bk _ _ e5)) e6 e7 e8 ?_
    refine ⟨Ia, fp, wr, n, Pf, St0, Mid0, (fun _ => true), (fun i y => i < n ∧ y = .bool (tr i)), rfl, W, (fun i vs q => let ⟨va, vb, e, _⟩ := hitem i vs q; ⟨va, vb, e⟩), ?_, ?_, lim2.extBut hx3 hcP, ?_, ?_, ?_⟩
    · exact (W X.A hr.hd).frame _ _ _ hst fun b hb u e => hx3 b u (fun z => hPf (z ▸ hb)) e
    · exact fun b hb => Nat.lt_of_lt_of_le (hfp b hb) hsz
    · exact fun z => absurd (hwr _ z) (Nat.not_le.mpr hcl)
    · intro href hhref
      have up : ∀ (t : Shared), (∀ b ∈ List.range h3.objs.size, b ∉ wr → ∀ o, href.get? b = some o → t.heap.get? b = some o) → ∀ b o, b ≠ P → s1.heap.get? b = some o → t.heap.get? b = some o := fun t hk b o hb e => by
        have e3 := keep3 b o hb e
        exact hk b (List.mem_range.mpr (Heap.lt_size e3)) (fun z => absurd (hwr _ z) (Nat.not_le.mpr (Heap.lt_size e))) o (hhref b o e3)
      refine ⟨fun A' E' i v u s₂ m₂ hA hD hU hPv hn hm hmb hk => ?_, fun A' E' i v u s₂ m₂ hA hD hU hPv hp hn hm hmb hk => ?_⟩
      · simp only [List.forIn_nil]
        exact wpAny_pure ⟨rfl, Kp.refl _⟩
      · obtain ⟨va, vb, e9, hi9, d1, d2, hd, hd2, hv, hv2⟩ := hitem i _ hPv
        have e10 : v = va ∧ u = vb := by simpa using e9
        obtain ⟨rfl, rfl⟩ := e10
        have u2 := up s₂ hk
        have n2 : HN s1.heap s₂.heap := hn_but hPs u2
        have kb : HK X.base s₂.heap := fun b o e => u2 b o (fun z => by
          have := (I1.bs b o e).2
          rw [z, hP] at this
          cases this) (I1.bk b o e)
        refine thn (hel i d1 d2 hi9 hd hd2 A' h3.objs.size code hA hD hU ⟨I1.mod, I1.ok.glob, rfl, S.kind, hA⟩ E' s₂ kb ⟨⟨m₂, v, u, hn, hm, hmb, hv.n n2, hv2.n n2⟩, hG.mono _ _ n2 hGf⟩) fun y s3 ⟨e, kp⟩ => ⟨⟨hi9, e⟩, kp⟩
    · intro g h5 tk5 gs hgb hag hsz5 hk5 W5 hgat
      simp only [GxR.passing_true, List.length_range] at W5
      refine hQ g _ ⟨_, _, _, _, _, W5.in4_1, hgat, ?_, fun s' hm => ?_⟩
      · intro j y sj Qj Ej hy hQj
        obtain ⟨i, hij, hi, e⟩ := hy
        obtain ⟨hj, ej⟩ := List.getElem?_eq_some_iff.mp hij
        rw [List.getElem_range] at ej
        subst ej
        subst e
        exact wpAny_truthy_bool hQj
      · exact after_gen I1 hP hmore ht3 hwr keep3 hP3 (Nat.le_trans sz12 hsz) hk5 hgb hm
  refine ⟨lim2, ?_⟩
  cases hf : codeAmong gpos ps.toList with
  | none =>
    refine wpAny_genexprCodeX hcode (cd.code hP2 ht) (cd.tab hP2) hf fun c' h' tk hx3 hge hlt hco' _ htab' _ => ?_
    obtain ⟨o1, vs, f1, tf, fl, tg, inF, tx, tt, op, _, _, _, _, _, _, _, _, _, htr, _⟩ := hco'
    exact cont _ h' tk _ hx3 (Nat.le_trans hge (Nat.le_of_lt hlt)) htab'.2 ⟨_, rfl⟩ htr
  | some cv =>
    refine wpAny_genexprCode_hit hcode (cd.code hP2 ht) hf ?_
    exact cont cv h2 tk2 ps (Heap.ExtBut.refl _ _) (Nat.le_refl _) hP2 ⟨#[], by simp⟩ ht
end
end QL
end

section
set_option Elab.async false
set_option linter.all false
set_option maxRecDepth 100000
set_option maxHeartbeats 4000000
/-! D11: all(.. for x in t), all(.. for x, y in zip(t, u)) over data. -/
namespace DL
open PySem PySem.Spec L2 QL
/-- the generator expression's scope, as it is written -/
structure GScpK (env : Env) (scope : Scope) : Prop where
  kind : scope.kind = .function
  co : scope.isCoroutine = false
  cell : ∀ y ∈ scope.names, y.2 ≠ .cell
  dot : scope.names.lookup (".0" : Str) = some NameKind.local
  free : ∀ y ∈ scope.names, y.2 = .free → env.scope.names.lookup y.1 = some .cell
theorem gscp {env : Env} {scope : Scope} (esc : Scope) (he : env.scope = esc) (h1 : scope.kind = .function := by rfl) (h2 : scope.isCoroutine = false := by rfl) (h3 : ∀ y ∈ scope.names, y.2 ≠ .cell := by decide +kernel) (h4 : scope.names.lookup (".0" : Str) = some NameKind.local := by rfl) (h5 : ∀ y ∈ scope.names, y.2 = .free → esc.names.lookup y.1 = some .cell := by decide +kernel) : GScpK env scope := ⟨h1, h2, h3, h4, by rw [he]; exact h5⟩
theorem GScpK.g {X : Cx} {scope : Scope} (S : GScpK X.env scope) (ok : X.Ok) : GScp X.env scope := ⟨S.kind, S.co, S.cell, S.dot, fun y hy e => ok.has _ (.inl (S.free y hy e))⟩
/-- captured names: the name, its slot, its data -/
def capF (X : Cx) (scope : Scope) (caps : List (Str × Nat × D)) (h : Heap) : Prop := ∀ c ∈ caps, ∃ a v, (cloFrom X.env.cells scope.names []).lookup c.1 = some a ∧ h.IsCell a (some v) ∧ VD h c.2.2 v
theorem fa_cap {X : Cx} {scope : Scope} {caps : List (Str × Nat × D)} : Fa (capF X scope caps) := ⟨fun h h' k f c hc => let ⟨a, v, e1, e2, e3⟩ := f c hc; ⟨a, v, e1, k.cell e2, e3.n k⟩⟩
structure CapOk (X : Cx) (Γ : En) (scope : Scope) (c : Str × Nat × D) : Prop where
  sl : Γ[c.2.1]? = some (.d c.2.2)
  nm : X.N[c.2.1]? = some c.1
  cl : X.env.kindOf c.1 = some .cell
  fr : (c.1, NameKind.free) ∈ scope.names
section
variable {X : Cx} {Γ : En} {pins : List (Addr × Obj)} {σ : St} {H : Hp} {s : Shared} {scope : Scope} {Z : Hd}
theorem vis_cell {sc : Scope} {x : Str} (h : sc.names.lookup x = some .cell) : Vis sc x := .inr (.inl h)
theorem cap_of {caps : List (Str × Nat × D)} (hc : ∀ c ∈ caps, CapOk X Γ scope c) (S : GScp X.env scope) (k : OkS X.K Z σ Γ H) (I : Inv X pins σ H s) : capF X scope caps s.heap := fun c hm => by
  have q := hc c hm
  obtain ⟨v, e, r⟩ := k.slot q.sl (fun _ => by simp) (by simp)
  obtain ⟨m, hn, hl⟩ := I.loc
  obtain ⟨u, ru, l⟩ := hl _ _ v q.nm e (vis_cell q.cl)
  have hv : VD s.heap c.2.2 u := vd_of I.hok _ v u (Dn.k r minus_keep.tk) ru
  rcases l with ⟨hk, _⟩ | ⟨_, a, ha, hcell⟩
  · rw [q.cl] at hk
    cases hk
  · exact ⟨a, u, NdefX.clo_has S.free q.fr ha, hcell, hv⟩
theorem no2 {x a b : Nat} (h1 : x ≠ a) (h2 : x ≠ b) : x ∉ [a, b] := fun h => by
  rcases List.mem_cons.mp h with z | z
  · exact h1 z
  · exact h2 (List.mem_singleton.mp z)
theorem zipSep (n a b : Nat) (ha : a < n) (hb : b < n) : ZipSep2 (n + 4) (n + 2) (n + 3) n (n + 1) [n, a] [n + 1, b] := by
  exact ⟨(show (n + 2 : Nat) ≠ n + 4 by omega), (show (n + 3 : Nat) ≠ n + 4 by omega), (show (n + 2 : Nat) ≠ n + 3 by omega), (show (n + 2 : Nat) ≠ n by omega), List.mem_cons_self, (no2 (by omega) (by omega)), (no2 (by omega) (by omega)), (show (n + 2 : Nat) ≠ n + 1 by omega), List.mem_cons_self, (no2 (by omega) (by omega)), (no2 (by omega) (by omega)), (no2 (by omega) (by omega)), (no2 (by omega) (by omega))⟩
theorem zip_fp {n a b t m : Nat} (ha : a < n) (hb : b < n) (hm : m = n + 5) (h : t ∈ (n + 4) :: (n + 2) :: (n + 3) :: ([n, a] ++ [n + 1, b])) : t < m := by
  have ht : t = n + 4 ∨ t = n + 2 ∨ t = n + 3 ∨ t = n ∨ t = a ∨ t = n + 1 ∨ t = b := by simpa using h
  omega
theorem zip_no {n a b t : Nat} (ha : a ≠ t) (hb : b ≠ t) (ht : t < n) (h : t ∈ (n + 4) :: (n + 2) :: (n + 3) :: ([n, a] ++ [n + 1, b])) : False := by
  have ht : t = n + 4 ∨ t = n + 2 ∨ t = n + 3 ∨ t = n ∨ t = a ∨ t = n + 1 ∨ t = b := by simpa using h
  omega
theorem zip_wr {n t : Nat} (h : t ∈ [n + 4, n + 3, n, n + 1]) : n ≤ t := by
  have ht : t = n + 4 ∨ t = n + 3 ∨ t = n ∨ t = n + 1 := by simpa using h
  omega
/-- the end: all, any over the generator -/
theorem tab_nx {P : Addr} {H2 : Hp} (k : OkS X.K Z σ Γ H) (hP : P ∈ tabs X.K) (h : GxR.Tabbed P H H2) : Nx X.K Z σ Γ H H2 := Nx.of_keep k (Keep.tabbed h (minus_keep.tabG (k.tb P hP)))
section
variable {c P : Addr} {elt iter ea eb : Expr} {x y : Str} {px py pt p pos gpos p2 pos2 : Pos} {kt k : Nat} {tr : Nat → Bool} {ds ds1 ds2 : List D} {caps : List (Str × Nat × D)}
theorem je_all1 (hr : Room k X.A) (TB : GxR.TabB X.base X.mg c P) (hPt : P ∈ tabs X.K) (hcode : X.env.code = .ref c) (hm : X.mg "all" = none) (S0 : GScpK X.env scope) (hx : scope.names.lookup x = some .local) (hi : PE X iter (tR X.K Γ (.d (.t ds)))) (hc : ∀ c ∈ caps, CapOk X Γ scope c)
    (hel : ∀ i d, ds[i]? = some d → ∀ (A' : Around) (C : Addr) (code : Value), A'.handled = none → A'.depth ≤ X.A.depth + 1 → A'.units ≤ X.A.units + 8 →
      QX.Ok ⟨X.prog, X.w, A', genEnv scope (cloFrom X.env.cells scope.names []) C code builtinsNs X.env, X.base, X.K, X.mg⟩ → QE ⟨X.prog, X.w, A', genEnv scope (cloFrom X.env.cells scope.names []) C code builtinsNs X.env, X.base, X.K, X.mg⟩ (F1 C x d (capF X scope caps)) elt (.b (tr i)))
    (hs : ∀ v, genFold iter X.env v = pure v := by intro _; rfl) (hg : Gl X "all" := by rfl) (he : starEach [.GeneratorExp elt [⟨.Name x px, iter, [], 0⟩] scope gpos] X.env = (false, eval (.GeneratorExp elt [⟨.Name x px, iter, [], 0⟩] scope gpos) X.env) :: starEach [] X.env := by rfl) :
    PE X (.Call (.Name "all" p) [.GeneratorExp elt [⟨.Name x px, iter, [], 0⟩] scope gpos] [] pos) (tR X.K Γ (.d (.b ((List.range ds.length).all tr)))) := by
  refine ⟨fun pins s σ H Q I ⟨Z, k0, q⟩ => ?_⟩
  have S := S0.g I.ok
  refine wpAny_Call_Name_kw (ld_blt I hg hm (show bootBuiltins (Str.ofString "all") = some (Value.builtin "all") by decide +kernel) ?_)
  refine PyProof.Rows.callWith_builtin1 ?_ he (by rfl)
  rw [he]
  show wpAny _ _ (spliced ((false, eval (.GeneratorExp elt [⟨.Name x px, iter, [], 0⟩] scope gpos) X.env) :: backTo pos (starEach [] X.env))) _ _ s
  refine Calls.spliced_cons (gen1 (pins := pins) (σ := σ) (Gf := capF X scope caps) (tr := tr) (ds := ds) hr TB hcode S hx hs fa_cap (thn (hi.run pins s σ H (fun v H1 => Nx X.K Z σ Γ H H1 ∧ RV X.K (minus Z σ Γ H1) (.d (.t ds)) v) I ⟨Z, k0, fun v H1 n1 r1 => ⟨n1, r1⟩⟩) fun xv s1 ⟨v, H1, I1, r, n1, r1⟩ => ?_) hel)
  obtain ⟨a, vs, e, h1, h2⟩ := r1
  subst e
  obtain rfl : xv = Value.ref a := r
  obtain ⟨its, rv, pl, hz⟩ := I1.tuple (SqT.of (K := X.K) (minus_some h1).1)
  obtain ⟨o0, ho0, hc0, m0, hd0⟩ := id pl
  have hlen : its.length = ds.length := by rw [← rv.length, h2.len]
  have hlen2 : its.toArray.size = ds.length := by rw [List.size_toArray, hlen]
  have hP1 : GxR.TabG H1 P := minus_keep.tabG (n1.ok.tb P hPt)
  refine ⟨H1, s1, I1, hP1, cap_of hc S n1.ok I1, fun g s5 hG => ?_, ?_⟩
  · obtain ⟨fp, wr, G, F, St, W, hst, htr, hI⟩ := hG
    refine Calls.spliced_nil ?_
    refine call_all_walkS (W.self 0 _ _ _ hst ⟨g, fp, wr, G, _, F, St, _, rfl, W, hst, htr, fun s' hmv => ?_⟩)
    obtain ⟨H2, hT, J⟩ := hI s' hmv
    exact ⟨.bl _, H2, J, rfl, q _ H2 (n1.trans (tab_nx n1.ok hPt hT)) rfl⟩
  · have hlt : a < s1.heap.objs.size := Heap.lt_size ho0
    refine wpAny_pyIter_tuple (show s1.heap.IsTuple a its.toArray from pl) ⟨s1.heap.objs.size, [s1.heap.objs.size, a], [s1.heap.objs.size], (fun i v => its.toArray[i]? = some v), (fun i h => h.IsTupleIter s1.heap.objs.size a i ∧ h.IsTuple a its.toArray), rfl, fun A' hA => by
      rw [← hlen2]
      exact Walks.tuple hA _ a (Nat.ne_of_lt hlt) _, ⟨⟨_, Heap.get?_push_size _ rfl, rfl, rfl⟩, (show PyProof.Rows.IsTup (s1.heap.push _) a its.toArray from pl.push _)⟩, fun b hb => ?_, fun hb => ?_, fun b hb => ?_, fun i v hv => ?_, ⟨_, _, rfl⟩, fun b o e => Heap.get?_push_of_some _ e, ?_⟩
    · show b < (s1.heap.push _).objs.size
      rw [Heap.size_push]
      rcases List.mem_cons.mp hb with z | z
      · rw [z]
        exact Nat.lt_succ_self _
      · rw [List.mem_singleton.mp z]
        exact Nat.lt_succ_of_lt hlt
    · obtain ⟨ps, e, _⟩ := hP1
      have e2 : s1.heap.get? P = some { cls := .none, data := .fields ps } := I1.hok P _ e
      rcases List.mem_cons.mp hb with z | z
      · have := Heap.lt_size e2
        rw [z] at this
        exact Nat.lt_irrefl _ this
      · rw [List.mem_singleton.mp z, ho0] at e2
        cases e2
        cases hd0
    · rw [List.mem_singleton.mp hb]
      exact Nat.le_refl _
    · have hv2 : its[i]? = some v := by simpa using hv
      have hi2 : i < ds.length := by rw [← hlen]; exact (List.getElem?_eq_some_iff.mp hv2).1
      obtain ⟨w, hw, dw⟩ := h2.at (List.getElem?_eq_getElem hi2)
      obtain ⟨u, hu, ru⟩ := rv.get hw
      rw [hv2] at hu
      cases hu
      exact ⟨_, List.getElem?_eq_getElem hi2, vd_of I1.hok _ w _ (Dn.k dw minus_keep.tk) ru⟩
    · show s1.heap.objs.size ≤ (s1.heap.push _).objs.size
      rw [Heap.size_push]
      exact Nat.le_succ _
theorem je_all2 (hr : Room k X.A) (TB : GxR.TabB X.base X.mg c P) (hPt : P ∈ tabs X.K) (hcode : X.env.code = .ref c) (hm : X.mg "all" = none) (hmz : X.mg "zip" = none) (S0 : GScpK X.env scope) (hx : scope.names.lookup x = some .local) (hy : scope.names.lookup y = some .local) (hxy : x ≠ y) (ha : PE X ea (tR X.K Γ (.d (.t ds1)))) (hb : PE X eb (tR X.K Γ (.d (.t ds2)))) (hc : ∀ c ∈ caps, CapOk X Γ scope c)
    (hel : ∀ i d1 d2, i < min ds1.length ds2.length → ds1[i]? = some d1 → ds2[i]? = some d2 → ∀ (A' : Around) (C : Addr) (code : Value), A'.handled = none → A'.depth ≤ X.A.depth + 1 → A'.units ≤ X.A.units + 8 →
      QX.Ok ⟨X.prog, X.w, A', genEnv scope (cloFrom X.env.cells scope.names []) C code builtinsNs X.env, X.base, X.K, X.mg⟩ → QE ⟨X.prog, X.w, A', genEnv scope (cloFrom X.env.cells scope.names []) C code builtinsNs X.env, X.base, X.K, X.mg⟩ (F2 C x y d1 d2 (capF X scope caps)) elt (.b (tr i)))
    (hs : ∀ v, genFold (.Call (.Name "zip" p2) [ea, eb] [] pos2) X.env v = pure v := by intro _; rfl) (hg : Gl X "all" := by rfl) (hgz : Gl X "zip" := by rfl)
    (hsa : starEach [ea, eb] X.env = (false, eval ea X.env) :: starEach [eb] X.env := by rfl) (hsb : starEach [eb] X.env = (false, eval eb X.env) :: starEach [] X.env := by rfl) (hpl : (backTo pos2 (starEach [eb] X.env)).any (·.1) = false := by rfl)
    (he : starEach [.GeneratorExp elt [⟨.Tuple [.Name x px, .Name y py] kt pt, .Call (.Name "zip" p2) [ea, eb] [] pos2, [], 0⟩] scope gpos] X.env = (false, eval (.GeneratorExp elt [⟨.Tuple [.Name x px, .Name y py] kt pt, .Call (.Name "zip" p2) [ea, eb] [] pos2, [], 0⟩] scope gpos) X.env) :: starEach [] X.env := by rfl) :
    PE X (.Call (.Name "all" p) [.GeneratorExp elt [⟨.Tuple [.Name x px, .Name y py] kt pt, .Call (.Name "zip" p2) [ea, eb] [] pos2, [], 0⟩] scope gpos] [] pos) (tR X.K Γ (.d (.b ((List.range (min ds1.length ds2.length)).all tr)))) := by
  refine ⟨fun pins s σ H Q I ⟨Z, k0, q⟩ => ?_⟩
  have S := S0.g I.ok
  refine wpAny_Call_Name_kw (ld_blt I hg hm (show bootBuiltins (Str.ofString "all") = some (Value.builtin "all") by decide +kernel) ?_)
  refine PyProof.Rows.callWith_builtin1 ?_ he (by rfl)
  rw [he]
  show wpAny _ _ (spliced ((false, eval (.GeneratorExp elt [⟨.Tuple [.Name x px, .Name y py] kt pt, .Call (.Name "zip" p2) [ea, eb] [] pos2, [], 0⟩] scope gpos) X.env) :: backTo pos (starEach [] X.env))) _ _ s
  refine Calls.spliced_cons (gen2 (pins := pins) (σ := σ) (Gf := capF X scope caps) (tr := tr) (ds1 := ds1) (ds2 := ds2) (n := min ds1.length ds2.length) hr TB hcode S hx hy hxy hs fa_cap ?_ hel)
  refine wpAny_Call_Name_kw (ld_blt I hgz hmz (show bootBuiltins (Str.ofString "zip") = some (Value.type "zip") by decide +kernel) (PyProof.Rows.callWith_type1 (thn ((ja_cons ha (ja_cons hb ja_nil hsb) hsa).run pos2 pins s σ H (fun vs H1 => Nx X.K Z σ Γ H H1 ∧ RVs X.K (minus Z σ Γ H1) [.d (.t ds1), .d (.t ds2)] vs) I ⟨Z, k0, fun v H1 n1 r1 => ⟨n1, r1⟩⟩) fun us s1 ⟨vs, H1, I1, r, n1, r1⟩ => ?_) hsa hpl))
  obtain ⟨v1, rr, e1, ⟨a, xs, e3, h1, h2⟩, v2, rr2, e2, ⟨b, ys, e4, h3, h4⟩, e5⟩ := r1
  have e5 : rr2 = [] := e5
  subst e5 e2 e1 e3 e4
  obtain ⟨u1, u2, rfl, q1, q2⟩ := vals2 r
  obtain rfl : u1 = Value.ref a := q1
  obtain rfl : u2 = Value.ref b := q2
  obtain ⟨its, rv, pl, hz1⟩ := I1.tuple (SqT.of (K := X.K) (minus_some h1).1)
  obtain ⟨its2, rv2, pl2, hz2⟩ := I1.tuple (SqT.of (K := X.K) (minus_some h3).1)
  obtain ⟨o0, ho0, hc0, m0, hd0⟩ := id pl
  obtain ⟨o2, ho2, hc2, m2, hd2⟩ := id pl2
  have hla : a < s1.heap.objs.size := Heap.lt_size ho0
  have hlb : b < s1.heap.objs.size := Heap.lt_size ho2
  have hlen1 : its.toArray.size = ds1.length := by rw [List.size_toArray, ← rv.length, h2.len]
  have hlen2 : its2.toArray.size = ds2.length := by rw [List.size_toArray, ← rv2.length, h4.len]
  have hP1 : GxR.TabG H1 P := minus_keep.tabG (n1.ok.tb P hPt)
  have hPne : ∀ (t : Addr) (o : Obj), s1.heap.get? t = some o → o.cls = .type "tuple" → P ≠ t := fun t o ho hc z => by
    obtain ⟨ps, e, _⟩ := hP1
    have e2 : s1.heap.get? P = some { cls := .none, data := .fields ps } := I1.hok P _ e
    rw [z, ho] at e2
    cases e2
    cases hc
  have hPlt : P < s1.heap.objs.size := by
    obtain ⟨ps, e, _⟩ := hP1
    exact Heap.lt_size (show s1.heap.get? P = some { cls := .none, data := .fields ps } from I1.hok P _ e)
  refine RZ.call_zipT (show s1.heap.IsTuple a its.toArray from pl) (show s1.heap.IsTuple b its2.toArray from pl2) fun h' hz hTI hTO g1 g2 hsz hk => ?_
  refine ⟨H1, s1, I1, hP1, cap_of hc S n1.ok I1, fun g s5 hG => ?_, ?_⟩
  · obtain ⟨fp, wr, G, F, St, W, hst, htr, hI⟩ := hG
    refine Calls.spliced_nil ?_
    refine call_all_walkS (W.self 0 _ _ _ hst ⟨g, fp, wr, G, _, F, St, _, rfl, W, hst, htr, fun s' hmv => ?_⟩)
    obtain ⟨H2, hT, J⟩ := hI s' hmv
    exact ⟨.bl _, H2, J, rfl, q _ H2 (n1.trans (tab_nx n1.ok hPt hT)) rfl⟩
  · refine wpAny_pyIter_zip hz ⟨s1.heap.objs.size + 4, (s1.heap.objs.size + 4) :: (s1.heap.objs.size + 2) :: (s1.heap.objs.size + 3) :: ([s1.heap.objs.size, a] ++ [s1.heap.objs.size + 1, b]), [s1.heap.objs.size + 4, s1.heap.objs.size + 3, s1.heap.objs.size, s1.heap.objs.size + 1],
      (fun i vals => ∃ x1 x2, its.toArray[i]? = some x1 ∧ its2.toArray[i]? = some x2 ∧ vals = #[x1, x2]),
      (fun i h => IsZip h (s1.heap.objs.size + 4) (s1.heap.objs.size + 2) (s1.heap.objs.size + 3) .none ∧ IsTupOf2 h (s1.heap.objs.size + 2) (.ref s1.heap.objs.size) (.ref (s1.heap.objs.size + 1)) ∧ (∃ a1 a2, IsTupOf2 h (s1.heap.objs.size + 3) a1 a2) ∧ (h.IsTupleIter s1.heap.objs.size a i ∧ h.IsTuple a its.toArray) ∧ (h.IsTupleIter (s1.heap.objs.size + 1) b i ∧ h.IsTuple b its2.toArray)),
      _, rfl, fun A' hA => by
      rw [← hlen1, ← hlen2]
      exact (WalksT.zipD2 (zipSep s1.heap.objs.size a b hla hlb) (Draws.tuple (A := A'.in1) hA _ a (Nat.ne_of_lt hla) its.toArray) (Draws.tuple (A := A'.in1) hA _ b (Nat.ne_of_lt (Nat.lt_succ_of_lt hlb)) its2.toArray)).toU, ⟨hz, hTI, ⟨_, _, hTO⟩, ⟨g1, (show PyProof.Rows.IsTup h' a its.toArray from pl.keeps hk)⟩, ⟨g2, (show PyProof.Rows.IsTup h' b its2.toArray from pl2.keeps hk)⟩⟩, fun t ht => zip_fp hla hlb hsz ht, fun ht => zip_no (Ne.symm (hPne a o0 ho0 hc0)) (Ne.symm (hPne b o2 ho2 hc2)) hPlt ht, fun t ht => zip_wr ht, fun i vs hv => ?_, ⟨h', _, rfl⟩, hk, ?_⟩
    · obtain ⟨va, vb, hva, hvb, e⟩ := hv
      have hv2 : its[i]? = some va := by simpa using hva
      have hv3 : its2[i]? = some vb := by simpa using hvb
      have i1 : i < ds1.length := by rw [← hlen1, List.size_toArray]; exact (List.getElem?_eq_some_iff.mp hv2).1
      have i2 : i < ds2.length := by rw [← hlen2, List.size_toArray]; exact (List.getElem?_eq_some_iff.mp hv3).1
      obtain ⟨w, hw, dw⟩ := h2.at (List.getElem?_eq_getElem i1)
      obtain ⟨u, hu, ru⟩ := rv.get hw
      rw [hv2] at hu
      cases hu
      obtain ⟨w2, hw2, dw2⟩ := h4.at (List.getElem?_eq_getElem i2)
      obtain ⟨u2, hu2, ru2⟩ := rv2.get hw2
      rw [hv3] at hu2
      cases hu2
      exact ⟨va, vb, e, Nat.lt_min.mpr ⟨i1, i2⟩, _, _, List.getElem?_eq_getElem i1, List.getElem?_eq_getElem i2, vd_of I1.hok _ w _ (Dn.k dw minus_keep.tk) ru, vd_of I1.hok _ w2 _ (Dn.k dw2 minus_keep.tk) ru2⟩
    · show s1.heap.objs.size ≤ h'.objs.size
      rw [hsz]
      exact Nat.le_add_right _ _
end
end
end DL
end

section
set_option Elab.async false
set_option linter.all false
set_option maxRecDepth 100000
set_option maxHeartbeats 4000000
/-! E4: is_number .. need_clock. -/
namespace LW
open PySem PySem.Spec L2 DL LC QL
/-- the names of the built-ins are not the module's -/
structure Blt (mg : Str → Option Value) : Prop where
  isi : mg "isinstance" = none
  int : mg "int" = none
  bool : mg "bool" = none
  tuple : mg "tuple" = none
  list : mg "list" = none
  len : mg "len" = none
  all : mg "all" = none
  any : mg "any" = none
  sum : mg "sum" = none
  zip : mg "zip" = none
  min : mg "min" = none
  max : mg "max" = none
  sorted : mg "sorted" = none
  range : mg "range" = none
  enum : mg "enumerate" = none
  str : mg "str" = none
section
variable {P : Program} {w : World} {K : PySem.W.Frag} {mg : Str → Option Value} {base : Heap} {f : Addr} {fd : FuncData}
theorem kit_same {T : String} : PySem.W.kitOne K (.type T) (.type T) = some true := if_pos (beq_self_eq_true _)
theorem kit_ib : PySem.W.kitOne K (.type "int") (.type "bool") = some false := by rfl
abbrev sNum : Stmt := topS 14
abbrev psNum : List Str := ["value", "low", "high"]
theorem scNum : FnScope psNum psNum (defScope sNum) := ⟨rfl, rfl, rfl, by decide +kernel, rfl, by decide +kernel, by decide +kernel⟩
def pmNum : Pm := ⟨Int × Int × Int, fun (n, lo, hi) => [.d (.i n), .d (.i lo), .d (.i hi)], fun _ => True, fun (n, lo, hi) r => r = .d (.b (decide (lo ≤ n) && decide (n ≤ hi)))⟩
theorem ok_num (B : Blt mg) (F : Fun K "is_number" "is_number" sNum f fd) : FnOk P w K mg base CX0 1 f fd psNum (spP K pmNum) := by
  refine fn_ok F scNum (fun _ => rfl) (fun _ _ => by simp [pmNum]) (by decide) fun cdv A outer s H E ⟨n, lo, hi⟩ hr _ => ?_
  show PSs _ _ (tS K [.d (.i n), .d (.i lo), .d (.i hi)] _)
  refine js_one (js_ret (je_and (je_isi (T := "int") B.isi B.int (by decide +kernel) (jv 0) kit_same) fun _ => je_and (je_not (je_isi (T := "bool") B.isi B.bool (by decide +kernel) (jv 0) kit_ib)) fun _ => je_one (je_chain op_le op_le o2_IB o2_IB (jv 1) (jv 0) (jv 2))) ?_)
  show Sl.d _ = Sl.d _
  rfl
theorem lookup_nodup {α : Type} : ∀ {l : List (Str × α)} {x : Str} {v : α}, (l.map (·.1)).Nodup → (x, v) ∈ l → l.lookup x = some v
  | (y, u) :: l, x, v, nd, hm => by
    rw [List.map_cons, List.nodup_cons] at nd
    rcases List.mem_cons.mp hm with e | hm2
    · injection e with e1 e2
      subst e1 e2
      rw [List.lookup_cons, beq_self_eq_true]
    · have ne : (x == y) = false := by
        rw [beq_eq_false_iff_ne]
        intro e
        subst e
        exact nd.1 (List.mem_map.mpr ⟨_, hm2, rfl⟩)
      rw [List.lookup_cons, ne]
      exact lookup_nodup nd.2 hm2
theorem lookup_zip {α : Type} {ps : List Str} {us : List α} {j : Nat} {x : Str} (nd : ps.Nodup) (hl : us.length = ps.length) (hx : ps[j]? = some x) : (ps.zip us).reverse.lookup x = us[j]? := by
  have hj : j < us.length := by rw [hl]; exact (List.getElem?_eq_some_iff.mp hx).1
  rw [List.getElem?_eq_getElem hj]
  refine lookup_nodup ?_ ?_
  · rw [List.map_reverse]
    rw [List.map_fst_zip (Nat.le_of_eq hl.symm)]
    exact List.pairwise_reverse.mpr (nd.imp fun h => Ne.symm h)
  · rw [List.mem_reverse]
    refine List.mem_of_getElem? (i := j) ?_
    rw [List.getElem?_zip_eq_some]
    exact ⟨hx, List.getElem?_eq_getElem hj⟩
/-- a def's parameters, quiet -/
def parF (L : Addr) (ps : List Str) (ds : List D) (h : Heap) : Prop := ∃ us, h.Ns L (fun y => (ps.zip us).reverse.lookup y) ∧ VDs h ds us
theorem fa_par {L : Addr} {ps : List Str} {ds : List D} : Fa (parF L ps ds) := ⟨fun h h' k ⟨us, a, b⟩ => ⟨us, ns_n a k, b.n k⟩⟩
theorem q_par {q : QX} {L : Addr} {ps : List Str} {ds : List D} {x : Str} {d : D} {pos : Pos} (ok : q.Ok) (j : Nat) (hL : q.env.locals = L) (nd : ps.Nodup) (hl : ds.length = ps.length) (hx : ps[j]? = some x := by rfl) (hd : ds[j]? = some d := by rfl) (hk : q.env.kindOf x = some .local := by rfl) (h1 : (x == ("__debug__" : Str)) = false := by decide) : QE q (parF L ps ds) (.Name x pos) d :=
  q_loc ok hk (fun h ⟨us, a, b⟩ => by
    obtain ⟨v, hv, e⟩ := b.at hd
    exact ⟨_, v, by rw [hL]; exact a, by show (ps.zip us).reverse.lookup x = _; rw [lookup_zip nd (by rw [b.len, hl]) hx]; exact hv, e⟩) h1
theorem q_is {q : QX} {F : Heap → Prop} {e : Expr} {d d' : D} (h : QE q F e d) (w : d = d') : QE q F e d' := w ▸ h
theorem qf_num (B : Blt mg) (md : L2.Mod K mg base) (F : Fun K "is_number" "is_number" sNum f fd) (hb : Binds K fd psNum []) {n lo hi : Int} : QF P w base f 2 [.i n, .i lo, .i hi] (.b (decide (lo ≤ n) && decide (n ≤ hi))) := by
  refine qf_of F md hb rfl (by decide +kernel) (by decide +kernel) rfl rfl rfl fun kV doc pm an cdv ct A L hA hd => ?_
  have ok : QX.Ok ⟨P, w, A, PySem.callEnv (PySem.W.fnOf "is_number" "is_number" (defArgs sNum) (defBody sNum) (defScope sNum) .none kV doc pm an cdv ct) L f, base, K, mg⟩ := ⟨md, rfl, rfl, rfl, hA⟩
  show QS _ (parF L psNum [.i n, .i lo, .i hi]) _ _
  have v : ∀ pos, QE ⟨P, w, A, PySem.callEnv (PySem.W.fnOf "is_number" "is_number" (defArgs sNum) (defBody sNum) (defScope sNum) .none kV doc pm an cdv ct) L f, base, K, mg⟩ (parF L psNum [.i n, .i lo, .i hi]) (.Name "value" pos) (.i n) := fun pos => q_par ok 0 rfl scNum.nd rfl
  have l : ∀ pos, QE ⟨P, w, A, PySem.callEnv (PySem.W.fnOf "is_number" "is_number" (defArgs sNum) (defBody sNum) (defScope sNum) .none kV doc pm an cdv ct) L f, base, K, mg⟩ (parF L psNum [.i n, .i lo, .i hi]) (.Name "low" pos) (.i lo) := fun pos => q_par ok 1 rfl scNum.nd rfl
  have u : ∀ pos, QE ⟨P, w, A, PySem.callEnv (PySem.W.fnOf "is_number" "is_number" (defArgs sNum) (defBody sNum) (defScope sNum) .none kV doc pm an cdv ct) L f, base, K, mg⟩ (parF L psNum [.i n, .i lo, .i hi]) (.Name "high" pos) (.i hi) := fun pos => q_par ok 2 rfl scNum.nd rfl
  exact qs_ret (q_is (q_and fa_par (q_isi (T := "int") ok fa_par B.isi B.int (by decide +kernel) (v _) kit_same) fun _ => q_and fa_par (q_not (q_isi (T := "bool") ok fa_par B.isi B.bool (by decide +kernel) (v _) kit_ib)) fun _ => q_one (q_chain fa_par cmp_le cmp_le (l _) (v _) (u _))) (by simp))
end
end LW
end

section
set_option Elab.async false
set_option linter.all false
set_option maxRecDepth 100000
set_option maxHeartbeats 4000000
/-! E5: are_rising, are_editions, are_touches, are_gaps, is_entry, is_book, need_clock. -/
namespace LW
open PySem PySem.Spec L2 DL LC QL
/-- a def whose code object stands at c -/
structure FunT (K : PySem.W.Frag) (x qual : Str) (st : Stmt) (f : Addr) (fd : FuncData) (c : Addr) : Prop where
  ex : ∃ (oc : Value) (od : Option Addr) (kV doc pm : Value) (an : Option Addr) (ct : Value) (osl : Array (Option Value)),
    fd = PySem.W.fnOf x qual (defArgs st) (defBody st) (defScope st) .none kV doc pm an (.ref c) ct ∧ K.lookup f = some ⟨oc, od, .func fd, osl⟩ ∧ PySem.W.codeIn K (.ref c) qual = true
  kp : PySem.W.keepIn K (.ref f) = true
theorem FunT.fn {K : PySem.W.Frag} {x qual : Str} {st : Stmt} {f : Addr} {fd : FuncData} {c : Addr} (F : FunT K x qual st f fd c) : Fun K x qual st f fd := ⟨let ⟨oc, od, kV, doc, pm, an, ct, osl, e⟩ := F.ex; ⟨oc, od, kV, doc, pm, an, .ref c, ct, osl, e⟩, F.kp⟩
section
variable {P : Program} {w : World} {K : PySem.W.Frag} {mg : Str → Option Value} {base : Heap} {f : Addr} {fd : FuncData} {c T : Addr}
theorem fn_okT {x qual : Str} {st : Stmt} {N ps : List Str} {k : Nat} {m : Pm} (F : FunT K x qual st f fd c) (S : FnScope N ps (defScope st)) (hlen : ∀ i, (m.A i).length = ps.length) (hno : ∀ i c, Sl.o c ∉ m.A i) (hps : ps.length ≤ N.length)
    (hbody : ∀ (A : Around) (outer : List Env) (s : Shared) (H : Hp) (E : XK) (i : m.ix), Room k (A.deeper (PyProof.Rows.envOfC qual (defScope st) s.heap.objs.size f (.ref c))) → m.G i →
      PSs (cxOf CX0 P w K mg base N qual (defScope st) f (.ref c) A outer s H E).nox (defBody st) (tS K (m.A i ++ List.replicate (N.length - (m.A i).length) .u) (fun o => match o with
        | .rt _ r => m.R i r
        | .nx _ => m.R i (.d .non)
        | .ct _ => False))) : FnOk P w K mg base CX0 (k + 1) f fd ps (spP K m) := by
  obtain ⟨oc, od, kV, doc, pm, an, ct, osl, rfl, lk, hcd⟩ := F.ex
  refine fn_of lk hcd S (fun vs H Q E ⟨i, hi, _, h, _⟩ => by rw [RVs.len h]; exact hlen i) fun A outer s H vs Q E hr ⟨i, hi, ht, h, q⟩ => ?_
  refine ⟨_, (hbody A outer s H E i hr hi).nox, H, ok_start h (by rw [hlen i]; exact hps) (hno i) ht, fun Γ' σ' H' hn k => ?_, fun Γ' σ' H' r' v hr' k rv => ?_, fun _ _ _ z => z.elim⟩
  · exact q _ _ H' hn (k.base.trans minus_keep) rfl
  · exact q _ _ H' hr' (k.base.trans minus_keep) rv
/-! ### quiet comparison of tuples -/
theorem ints_vds {h : Heap} : ∀ {ns : List Int} {its : List Value}, VDs h (nums ns) its → PyProof.Rows.IntsAre its ns
  | [], its, e => by
    rw [show its = [] from e]
    exact .nil
  | n :: ns, its, ⟨v, r, e, ⟨t, e1⟩, q⟩ => by
    subst e e1
    exact .cons n t (ints_vds q)
theorem q_ltT {q : QX} {F : Heap → Prop} {a b : Expr} {ns ms : List Int} {pos : Pos} (hF : Fa F) (hu : q.A.units < cLine) (ha : QE q F a (.t (nums ns))) (hb : QE q F b (.t (nums ms))) : QE q F (.Compare a [.Lt] [b] pos) (.b (HT.lexLt ns ms)) := fun E s k f => PySem.wpAny_Compare1 (hm := nobehind _ (by decide) (by decide)) (two hF ha hb k f fun x y s' kp v1 v2 => by
  obtain ⟨t, its, rfl, p, z, vs⟩ := v1
  obtain ⟨u, its2, rfl, p2, z2, vs2⟩ := v2
  exact HT.lt_tupInts p p2 (by simpa using ints_vds vs) (by simpa using ints_vds vs2) hu ⟨rfl, kp⟩)
theorem q1_x {q : QX} {C : Addr} {x : Str} {d : D} {G : Heap → Prop} {pos : Pos} (ok : q.Ok) (hC : q.env.locals = C) (hk : q.env.kindOf x = some .local) (hd : (x == ("__debug__" : Str)) = false := by decide) : QE q (F1 C x d G) (.Name x pos) d :=
  q_loc ok hk (fun h ⟨⟨m, v, a, b, c⟩, _⟩ => ⟨m, v, by rw [hC]; exact a, b, c⟩) hd
theorem q2_x {q : QX} {C : Addr} {x y : Str} {d1 d2 : D} {G : Heap → Prop} {pos : Pos} (ok : q.Ok) (hC : q.env.locals = C) (hk : q.env.kindOf x = some .local) (hd : (x == ("__debug__" : Str)) = false := by decide) : QE q (F2 C x y d1 d2 G) (.Name x pos) d1 :=
  q_loc ok hk (fun h ⟨⟨m, v, u, a, b, b2, c, c2⟩, _⟩ => ⟨m, v, by rw [hC]; exact a, b, c⟩) hd
theorem q2_y {q : QX} {C : Addr} {x y : Str} {d1 d2 : D} {G : Heap → Prop} {pos : Pos} (ok : q.Ok) (hC : q.env.locals = C) (hk : q.env.kindOf y = some .local) (hd : (y == ("__debug__" : Str)) = false := by decide) : QE q (F2 C x y d1 d2 G) (.Name y pos) d2 :=
  q_loc ok hk (fun h ⟨⟨m, v, u, a, b, b2, c, c2⟩, _⟩ => ⟨m, u, by rw [hC]; exact a, b2, c2⟩) hd
/-! ### are_rising -/
theorem cut1 (ds : List D) : cutD ds (some 1) none = ds.drop 1 := by
  unfold cutD
  rw [show HT.sIx ds.length 0 (some 1) = min 1 ds.length from HT.sIx_nat ds.length 0 1, HT.sIx_none]
  cases ds with
  | nil => rfl
  | cons d ds =>
    rw [List.length_cons, show min 1 (ds.length + 1) = 1 by omega]
    show List.take (ds.length + 1 - 1) ds = ds
    rw [Nat.add_sub_cancel, List.take_length]
abbrev sRise : Stmt := topS 15
abbrev nRise : List Str := ["value"]
theorem scRise : FnScope nRise ["value"] (defScope sRise) := ⟨rfl, rfl, rfl, by decide +kernel, rfl, by decide +kernel, by decide +kernel⟩
def pmRise : Pm := ⟨List Int ⊕ List (List Int), fun i => match i with
  | .inl ns => [.d (.t (nums ns))]
  | .inr ks => [.d (.t (ks.map fun k => .t (nums k)))], fun i => match i with
  | .inl ns => ns.Pairwise (· < ·)
  | .inr ks => ks.Pairwise fun a b => HT.lexLt a b = true, fun _ r => r = .d (.b true)⟩
theorem rise_all {n : Nat} : (List.range n).all (fun _ => true) = true := by rw [List.all_eq_true]; exact fun _ _ => rfl
theorem ok_rise (B : Blt mg) (TB : GxR.TabB base mg c T) (hT : T ∈ tabs K) (F : FunT K "are_rising" "are_rising" sRise f fd c) : FnOk P w K mg base CX0 1 f fd ["value"] (spP K pmRise) := by
  refine fn_okT F scRise (fun i => by cases i <;> rfl) (fun i _ => by cases i <;> simp [pmRise]) (by decide) fun A outer s H E i hr hG => ?_
  cases i with
  | inl ns =>
    show PSs _ _ (tS K [.d (.t (nums ns))] _)
    refine js_one (js_ret (je_all2 (caps := []) (tr := fun _ => true) hr TB hT rfl B.all B.zip (gscp (defScope sRise) rfl) rfl rfl (by decide) (jv 0) (je_from (jv 0) je_int) (by simp) fun i d1 d2 hi h1 h2 A' C code hA hD hU ok => ?_) ?_)
    · unfold nums at h1 h2
      rw [cut1, List.getElem?_drop] at h2
      rw [List.getElem?_map] at h1 h2
      obtain ⟨x, hx, rfl⟩ := Option.map_eq_some_iff.mp h1
      obtain ⟨y, hy, rfl⟩ := Option.map_eq_some_iff.mp h2
      refine q_is (q_cmp (fa2 fa_cap) cmp_lt (q2_x ok rfl rfl) (q2_y ok rfl rfl)) ?_
      congr 1
      rw [decide_eq_true_iff]
      obtain ⟨hx1, rfl⟩ := List.getElem?_eq_some_iff.mp hx
      obtain ⟨hy1, rfl⟩ := List.getElem?_eq_some_iff.mp hy
      exact List.pairwise_iff_getElem.mp hG i (1 + i) hx1 hy1 (by omega)
    · show Sl.d _ = Sl.d _
      rw [rise_all]
  | inr ks =>
    show PSs _ _ (tS K [.d (.t (ks.map fun k => .t (nums k)))] _)
    refine js_one (js_ret (je_all2 (caps := []) (tr := fun _ => true) hr TB hT rfl B.all B.zip (gscp (defScope sRise) rfl) rfl rfl (by decide) (jv 0) (je_from (jv 0) je_int) (by simp) fun i d1 d2 hi h1 h2 A' C code hA hD hU ok => ?_) ?_)
    · rw [cut1, List.getElem?_drop] at h2
      rw [List.getElem?_map] at h1 h2
      obtain ⟨x, hx, rfl⟩ := Option.map_eq_some_iff.mp h1
      obtain ⟨y, hy, rfl⟩ := Option.map_eq_some_iff.mp h2
      refine q_is (q_ltT (fa2 fa_cap) (Nat.lt_of_le_of_lt (show A'.units ≤ (A.deeper _).units + 8 from hU) (by have := hr.un; omega)) (q2_x ok rfl rfl) (q2_y ok rfl rfl)) ?_
      congr 1
      obtain ⟨hx1, rfl⟩ := List.getElem?_eq_some_iff.mp hx
      obtain ⟨hy1, rfl⟩ := List.getElem?_eq_some_iff.mp hy
      exact List.pairwise_iff_getElem.mp hG i (1 + i) hx1 hy1 (by omega)
    · show Sl.d _ = Sl.d _
      rw [rise_all]
end
end LW
end

section
set_option Elab.async false
set_option linter.all false
set_option maxRecDepth 100000
set_option maxHeartbeats 2000000
/-! D12: more built-ins. -/
namespace DL
open PySem PySem.Spec L2
section
variable {X : Cx} {K : PySem.W.Frag} {Γ : En} {e a : Expr} {p pos : Pos} {ds : List D}
theorem cr_sumT (hc : X.calm = true) : CallR X (.builtin "sum") (fun xs H Q => ∃ (p : Addr) (ns : List Int), xs = [.ref p] ∧ SqT X.K H p (ns.map V.int) ∧ Q (.int ns.sum) H) := by
  intro pins s σ H vs us Q I r h
  obtain ⟨a, ns, rfl, hs, q⟩ := h
  obtain ⟨its, rv, hl, _⟩ := I.tuple hs
  rw [Vals.ref1 r]
  have hi : PyProof.Rows.IntsAre its ns := rv.ints
  obtain ⟨xs, hx⟩ := hi.allInts.items
  have hn : numsOf its.toArray.toList = ns := by rw [show its.toArray.toList = its from rfl, hi.numsOf]
  have hl2 : s.heap.IsTuple a its.toArray := hl
  rw [hx] at hl2 hn
  rw [nums_intItems] at hn
  refine PySem.W.ktm_sumG (I.ok.hd hc) hl2 fun h' tk t' hk => ?_
  rw [preSum_eq, List.take_of_length_le (by simp), hn]
  exact ⟨.int _, H, I.kept hk, ⟨_, rfl⟩, q⟩
/-- sum of a tuple of ints -/
theorem je_sumT {ns : List Int} (hc : X.calm = true) (hm : X.mg "sum" = none) (ha : PE X e (tR X.K Γ (.d (.t ds)))) (hn : ds = nums ns) (hg : Gl X "sum" := by rfl) (he : starEach [e] X.env = (false, eval e X.env) :: starEach [] X.env := by rfl) :
    PE X (.Call (.Name "sum" p) [e] [] pos) (tR X.K Γ (.d (.i ns.sum))) :=
  je_callB (cr_sumT hc) (fun B H vs Q kb tk h q => by
    subst hn
    obtain ⟨v, r, e, ⟨a, ws, e1, h3, h4⟩, h5⟩ := h
    have h5 : r = [] := h5
    obtain rfl := dns_nums h4
    subst h5 e1
    exact ⟨a, ns, e, SqT.of (kb.tk _ _ h3 rfl), q _ H (Keep.refl H) rfl⟩) hm (by decide +kernel) (ja_cons ha ja_nil he) hg (by decide) (by decide) he
theorem jt_chain {a b c : Expr} {s1 s2 s3 : Sl} {op op' : CmpOp} {r r' : R2} {x y : Bool} (ho : OpR X (compareOp op) r) (ho' : OpR X (compareOp op') r') (h1 : Op2 K r s1 s2 (.b x)) (h2 : Op2 K r' s2 s3 (.b y)) (ha : PE X a (tR K Γ s1)) (hb : PE X b (tR K Γ s2)) (hc : PE X c (tR K Γ s3))
    (hm : lastMarks [op, op'] [b, c] = false := by with_unfolding_all rfl) : PT X (.Compare a [op, op'] [b, c] pos) (tT K Γ (x && y)) := by
  refine pt_imp (pt_chain ho ho' ha hb hc hm) fun σ H Q q0 => ?_
  obtain ⟨Z, k, q⟩ := tT_R q0
  refine ⟨Z, k, fun v1 H1 n1 r1 => ⟨Z, n1.ok, fun v2 H2 n2 r2 => ?_⟩⟩
  refine h1 (minus Z σ Γ H2) H2 v1 v2 _ minus_keep n2.ok.tk (r1.k n2.kp) r2 fun z H3 kp e => ⟨x, e, ?_⟩
  have n3 := Nx.of_keep n2.ok kp
  cases x with
  | true =>
    rw [if_pos rfl]
    refine ⟨Z, n3.ok, fun v4 H4 n4 r4 => ?_⟩
    refine h2 (minus Z σ Γ H4) H4 v2 v4 _ minus_keep n4.ok.tk (r2.k (n3.kp.trans n4.kp)) r4 fun z H5 kp5 e5 => ?_
    exact q z H5 ((((n1.trans n2).trans n3).trans n4).trans (Nx.of_keep n4.ok kp5)) e5
  | false =>
    rw [if_neg Bool.false_ne_true]
    exact q _ H3 ((n1.trans n2).trans n3) rfl
end
end DL
end

section
set_option Elab.async false
set_option linter.all false
set_option maxRecDepth 100000
set_option maxHeartbeats 4000000
/-! E6: are_editions, are_touches, are_gaps, is_entry, is_book, need_clock. -/
namespace LW
open PySem PySem.Spec L2 DL LC QL
/-- is_number, also as it is called from a generator -/
structure NumD (P : Program) (w : World) (K : PySem.W.Frag) (mg : Str → Option Value) (base : Heap) : Prop where
  df : Df P w K mg base 1 "is_number" psNum pmNum
  q : ∃ (f : Addr) (fd : FuncData), Fun K "is_number" "is_number" sNum f fd ∧ mg "is_number" = some (.ref f) ∧ Binds K fd psNum []
section
variable {P : Program} {w : World} {K : PySem.W.Frag} {mg : Str → Option Value} {base : Heap} {f : Addr} {fd : FuncData} {c T : Addr}
theorem dep {A A' : Around} {k n : Nat} (hr : Room k A) (hD : A'.depth ≤ A.depth + 1) (h : n ≤ 4) : A'.depth + n < recursionLimit := by
  have := hr.dp
  omega
theorem num_tt {n lo hi : Int} (h : lo ≤ n ∧ n ≤ hi) : D.b (decide (lo ≤ n) && decide (n ≤ hi)) = .b true := by
  rw [decide_eq_true h.1, decide_eq_true h.2]
  rfl
/-- is_number of data that is one: true -/
theorem jnum {X : Cx} {Γ : En} {e1 e2 e3 : Expr} {p pos : Pos} {n lo hi : Int} {j : Nat} (N : NumD X.prog X.w X.K X.mg X.base) (hr : Room j X.A) (hj : 1 ≤ j) (h1 : PE X e1 (tR X.K Γ (.d (.i n)))) (h2 : PE X e2 (tR X.K Γ (.d (.i lo)))) (h3 : PE X e3 (tR X.K Γ (.d (.i hi)))) (h : lo ≤ n ∧ n ≤ hi) (hg : Gl X "is_number" := by rfl)
    (he : starEach [e1, e2, e3] X.env = (false, eval e1 X.env) :: starEach [e2, e3] X.env := by rfl) (he2 : starEach [e2, e3] X.env = (false, eval e2 X.env) :: starEach [e3] X.env := by rfl) (he3 : starEach [e3] X.env = (false, eval e3 X.env) :: starEach [] X.env := by rfl) (hpl : (backTo pos (starEach [e2, e3] X.env)).any (·.1) = false := by rfl) : PE X (.Call (.Name "is_number" p) [e1, e2, e3] [] pos) (tR X.K Γ (.d (.b true))) :=
  je_is (jc N.df (n, lo, hi) hr hj (ja_cons h1 (ja_cons h2 (ja_cons h3 ja_nil he3) he2) he) trivial (fun r h => h) hg (by decide) he hpl) (num_tt h)
theorem qnum {q : QX} {F : Heap → Prop} {e1 e2 e3 : Expr} {p pos : Pos} {n lo hi : Int} (ok : q.Ok) (B : Blt q.mg) (N : NumD P w q.K q.mg base) (hr : q.A.depth + 2 < recursionLimit) (hF : Fa F) (h1 : QE q F e1 (.i n)) (h2 : QE q F e2 (.i lo)) (h3 : QE q F e3 (.i hi)) (h : lo ≤ n ∧ n ≤ hi) (hg : q.env.kindOf "is_number" = some .globalImplicit := by rfl)
    (he : starEach [e1, e2, e3] q.env = (false, eval e1 q.env) :: starEach [e2, e3] q.env := by rfl) (he2 : starEach [e2, e3] q.env = (false, eval e2 q.env) :: starEach [e3] q.env := by rfl) (he3 : starEach [e3] q.env = (false, eval e3 q.env) :: starEach [] q.env := by rfl) (hpl : (backTo pos (starEach [e2, e3] q.env)).any (·.1) = false := by rfl) : QE q F (.Call (.Name "is_number" p) [e1, e2, e3] [] pos) (.b true) := by
  obtain ⟨f, fd, G, hm, hb⟩ := N.q
  exact q_is (q_call ok (qf_num B ok.mod G hb) hr hm G.kp (qa_cons hF h1 (qa_cons hF h2 (qa_cons hF h3 qa_nil he3) he2) he) hg (by decide) he hpl) (num_tt h)
abbrev sEds : Stmt := topS 16
theorem scEds : FnScope ["value"] ["value"] (defScope sEds) := ⟨rfl, rfl, rfl, by decide +kernel, rfl, by decide +kernel, by decide +kernel⟩
def pmEds : Pm := ⟨List Nat, fun l => [.d (eT l)], fun l => 0 < l.length ∧ l.length ≤ 3 ∧ (∀ x ∈ l, x ≤ 2) ∧ l.sum ≤ 6, fun _ r => r = .d (.b true)⟩
theorem nn_sum (l : List Nat) : (nn l).sum = ((l.sum : Nat) : Int) := by
  induction l with
  | nil => rfl
  | cons x l ih =>
    show (x : Int) + (nn l).sum = _
    rw [ih, List.sum_cons]
    omega
theorem ok_eds {te tw tx : Tok} (B : Blt mg) (N : NumD P w K mg base) (hw : mg "MOST_WHEELS" = some (.int 12 tw)) (he : mg "MOST_EDITIONS" = some (.int 4 te)) (hx : mg "MOST_EXCHANGES" = some (.int 24 tx)) (TB : GxR.TabB base mg c T) (hT : T ∈ tabs K) (F : FunT K "are_editions" "are_editions" sEds f fd c) : FnOk P w K mg base CX0 2 f fd ["value"] (spP K pmEds) := by
  refine fn_okT F scEds (fun i => rfl) (fun i _ => by simp [pmEds]) (by decide) fun A outer s H E (l : List Nat) hr ⟨h1, h2, h3, h4⟩ => ?_
  show PSs _ _ (tS K [.d (eT l)] _)
  refine js_cons (js_ifN (jt_is (PW.pt (jw_or (jt_not (jt_val (je_isi (T := "tuple") B.isi B.tuple (by decide +kernel) (jv 0) kit_same))) fun _ => jw_or1 (jt_not (jt_chain op_le op_le o2_IB o2_IB je_int (je_lenT B.len (jv 0)) (je_globI rfl hw))))) ?_) ?_)
  · rw [nn_len, decide_eq_true (show (1 : Int) ≤ (l.length : Nat) by omega), decide_eq_true (show ((l.length : Nat) : Int) ≤ 12 by omega)]
    rfl
  · refine js_one (js_ret (je_and (x := true) (je_is (je_all1 (caps := []) (tr := fun _ => true) hr TB hT rfl B.all (gscp (defScope sEds) rfl) rfl (jv 0) (by simp) fun i d hd A' C code hA hD hU ok => ?_) (by rw [rise_all])) fun _ => je_one (je_le (je_sumT rfl B.sum (jv 0) rfl) (je_globI rfl hx))) ?_)
    · rw [nums_nn, List.getElem?_map] at hd
      obtain ⟨x, hx9, rfl⟩ := Option.map_eq_some_iff.mp hd
      have hm := List.mem_of_getElem? hx9
      exact qnum ok B N (dep hr hD (by decide)) (fa1 fa_cap) (q1_x ok rfl rfl) q_int (q_globI ok rfl he) (by have := h3 x hm; omega)
    · show Sl.d _ = Sl.d _
      rw [nn_sum, decide_eq_true (show ((l.sum : Nat) : Int) ≤ 24 by omega)]
      rfl
abbrev sTch : Stmt := topS 17
abbrev nTch : List Str := ["value", "period", "wheels", "touch"]
theorem scTch : FnScope nTch ["value", "period", "wheels"] (defScope sTch) := ⟨rfl, rfl, rfl, by decide +kernel, rfl, by decide +kernel, by decide +kernel⟩
def pmTch : Pm := ⟨Clk, fun c => [.d (.t (c.tch.map e3)), .d (eN c.per), .d (eN c.eds.length)], fun c => Good c, fun _ r => r = .d (.b true)⟩
def k3 (x : Nat × Nat × Nat) : List Int := [(x.1 : Int), (x.2.1 : Int), (x.2.2 : Int)]
theorem lex3 {a b : Nat × Nat × Nat} (h : a.1 < b.1 ∨ (a.1 = b.1 ∧ (a.2.1 < b.2.1 ∨ (a.2.1 = b.2.1 ∧ a.2.2 < b.2.2)))) : HT.lexLt (k3 a) (k3 b) = true := by
  unfold k3
  rw [HT.lexLt_cons, HT.lexLt_cons, HT.lexLt_cons, HT.lexLt_nil_nil]
  split
  · split
    · split
      · omega
      · rw [decide_eq_true_iff]
        omega
    · rw [decide_eq_true_iff]
      omega
  · rw [decide_eq_true_iff]
    omega
theorem ok_tch (B : Blt mg) (N : NumD P w K mg base) (R : Df P w K mg base 1 "are_rising" ["value"] pmRise) (F : Fun K "are_touches" "are_touches" sTch f fd) : FnOk P w K mg base CX0 3 f fd ["value", "period", "wheels"] (spP K pmTch) := by
  refine fn_ok F scTch (fun i => rfl) (fun i _ => by simp [pmTch]) (by decide) fun cdv A outer s H E (c : Clk) hr (hg : Good c) => ?_
  show PSs _ _ (tS K [.d (.t (c.tch.map e3)), .d (eN c.per), .d (eN c.eds.length), .u] _)
  refine js_cons (js_ifN (jt_is (jt_not (jt_val (je_isi (T := "tuple") B.isi B.tuple (by decide +kernel) (jv 0) kit_same))) rfl) ?_)
  refine js_cons (js_for (ds := c.tch.map e3) (fun i Γ => ∃ x : Sl, Γ = [.d (.t (c.tch.map e3)), .d (eN c.per), .d (eN c.eds.length), x]) PassesOwn.never rfl (ji_tup (jv 0)) (pg_name scTch.nd rfl (Or.inl rfl)) (tg_name 3) ⟨.u, rfl⟩ (fun i d Γ' hd hI => ?_) fun Γ' hI => ?_)
  · obtain ⟨x, rfl⟩ := hI
    rw [List.getElem?_map] at hd
    obtain ⟨t, ht, rfl⟩ := Option.map_eq_some_iff.mp hd
    obtain ⟨t1, t2, t3⟩ := hg.tv t (List.mem_of_getElem? ht)
    refine ⟨[.d (.t (c.tch.map e3)), .d (eN c.per), .d (eN c.eds.length), .d (e3 t)], rfl, ?_⟩
    refine js_cons (js_ifN (jt_is (PW.pt (jw_or (jt_not (jt_val (je_isi (T := "tuple") B.isi B.tuple (by decide +kernel) (jv 3) kit_same))) fun _ => jw_or (jt_neI (je_lenT B.len (jv 3)) je_int) fun _ => jw_or1 (jt_not (jt_val (jnum N hr (by decide) (je_ix (jv 3) je_int) je_int (je_sub (jv 1) je_int) (by omega)))))) rfl) ?_)
    refine js_one (js_ifN (jt_is (PW.pt (jw_or (jt_not (jt_val (jnum N hr (by decide) (je_ix (jv 3) je_int) je_int (je_sub (jv 2) je_int) (by omega)))) fun _ => jw_or1 (jt_not (jt_val (jnum N hr (by decide) (je_ix (jv 3) je_int) (je_add (je_ix (jv 3) je_int) je_int) (je_sub (jv 2) je_int) (by omega)))))) rfl) ⟨_, rfl⟩)
  · obtain ⟨x, rfl⟩ := hI
    refine js_one (js_ret (jc R (.inr (c.tch.map k3)) hr (by decide) (ja_cons (je_is (jv 0) ?_) ja_nil) ?_ fun r h => h) rfl)
    · rw [List.map_map]
      rfl
    · exact List.pairwise_map.mpr (hg.ts.imp fun h => lex3 h)
/-! ### are_gaps -/
abbrev sGps : Stmt := topS 18
abbrev nGps : List Str := ["value", "period", "editions", "phases", "last"]
theorem scGps : FnScope nGps ["value", "period", "editions"] (defScope sGps) := ⟨rfl, rfl, rfl, by decide +kernel, rfl, by decide +kernel, by decide +kernel⟩
def pmGps : Pm := ⟨Clk, fun c => [.d (.t (c.gps.map eT)), .d (eN c.per), .d (eT c.eds)], fun c => Good c, fun _ r => r = .d (.b true)⟩
theorem nn_up {l : List Nat} (h : l.Pairwise (· < ·)) : (nn l).Pairwise (· < ·) := List.pairwise_map.mpr (h.imp fun h => Int.ofNat_lt.mpr h)
theorem ok_gps (B : Blt mg) (N : NumD P w K mg base) (R : Df P w K mg base 1 "are_rising" ["value"] pmRise) (TB : GxR.TabB base mg c T) (hT : T ∈ tabs K) (F : FunT K "are_gaps" "are_gaps" sGps f fd c) : FnOk P w K mg base CX0 3 f fd ["value", "period", "editions"] (spP K pmGps) := by
  refine fn_okT F scGps (fun i => rfl) (fun i _ => by simp [pmGps]) (by decide) fun A outer s H E (c : Clk) hr (hg : Good c) => ?_
  show PSs _ _ (tS K [.d (.t (c.gps.map eT)), .d (eN c.per), .d (eT c.eds), .u, .u] _)
  have hlen : (c.gps.map eT).length = (nums (nn c.eds)).length := by rw [nn_len, List.length_map, hg.gn]
  refine js_cons (js_ifN (jt_is (PW.pt (jw_or (jt_not (jt_val (je_isi (T := "tuple") B.isi B.tuple (by decide +kernel) (jv 0) kit_same))) fun _ => jw_or1 (jt_neI (je_lenT B.len (jv 0)) (je_lenT B.len (jv 2))))) ?_) ?_)
  · rw [hlen, decide_eq_true rfl]
    rfl
  refine js_cons (js_for (ds := zipD (c.gps.map eT) (nums (nn c.eds))) (fun i Γ => ∃ x y : Sl, Γ = [.d (.t (c.gps.map eT)), .d (eN c.per), .d (eT c.eds), x, y]) PassesOwn.never rfl (ji_zipT B.zip (jv 0) (jv 2)) (pg_tup rfl (pgs_cons (pg_name scGps.nd rfl (Or.inl rfl)) (pgs_cons (pg_name scGps.nd rfl (Or.inl rfl)) pgs_nil))) (tg_names [3, 4]) ⟨.u, .u, rfl⟩ (fun i d Γ' hd hI => ?_) fun Γ' hI => ?_)
  · obtain ⟨x, y, rfl⟩ := hI
    unfold zipD at hd
    rw [List.getElem?_zipWith] at hd
    cases h1 : (c.gps.map eT)[i]? with
    | none =>
      rw [h1] at hd
      cases hd
    | some d1 =>
      cases h2 : (nums (nn c.eds))[i]? with
      | none =>
        rw [h1, h2] at hd
        cases hd
      | some d2 =>
        rw [h1, h2] at hd
        cases hd
        rw [List.getElem?_map] at h1
        obtain ⟨g, hgg, rfl⟩ := Option.map_eq_some_iff.mp h1
        rw [nums_nn, List.getElem?_map] at h2
        obtain ⟨l, hl, rfl⟩ := Option.map_eq_some_iff.mp h2
        obtain ⟨g1, g2, g3⟩ := hg.gv g (List.mem_of_getElem? hgg)
        refine ⟨[.d (.t (c.gps.map eT)), .d (eN c.per), .d (eT c.eds), .d (eT g), .d (eN l)], rfl, ?_⟩
        refine js_cons (js_ifN (jt_is (PW.pt (jw_or (jt_not (jt_val (je_isi (T := "tuple") B.isi B.tuple (by decide +kernel) (jv 3) kit_same))) fun _ => jw_or1 (jt_not (jt_val (je_is (d' := .b true) (je_all1 (caps := [("period", 1, eN c.per)]) (tr := fun _ => true) hr TB hT rfl B.all (gscp (defScope sGps) rfl) rfl (jv 3) (fun cc hcc => by
          obtain rfl := List.mem_singleton.mp hcc
          exact ⟨rfl, rfl, rfl, .tail _ (.tail _ (.head _))⟩) fun j d hd A' C code hA hD hU ok => ?_) (by rw [rise_all])))))) rfl) ?_)
        · rw [nums_nn, List.getElem?_map] at hd
          obtain ⟨x, hx9, rfl⟩ := Option.map_eq_some_iff.mp hd
          have := g2 x (List.mem_of_getElem? hx9)
          exact qnum ok B N (dep hr hD (by decide)) (fa1 fa_cap) (q1_x ok rfl rfl) q_int (q_sub (fa1 fa_cap) (q_free ok rfl (fun h ⟨_, hh⟩ => hh _ List.mem_cons_self)) q_int) (by omega)
        · refine js_one (js_ifN (jt_is (PW.pt (jw_or (jt_not (jt_val (jc R (.inl (nn g)) hr (by decide) (ja_cons (jv 3) ja_nil) (nn_up g3) fun r h => h))) fun _ => jw_or1 (PW.pt (jw_and (jt_gt (jv 4) je_int) fun _ => jw_and1 (jt_not (jt_tru (jv 3) truL_t)))))) ?_) ⟨_, _, rfl⟩)
          have : (nums (nn g)).isEmpty = false := by
            cases g with
            | nil => exact absurd rfl g1
            | cons a b => rfl
          rw [this]
          simp
  · obtain ⟨x, y, rfl⟩ := hI
    exact js_one (js_ret je_bl rfl)
end
end LW
end

section
set_option Elab.async false
set_option linter.all false
set_option maxRecDepth 100000
set_option maxHeartbeats 4000000
/-! E7: is_entry, is_book, need_clock, need_tick, need_standing, need_midst. -/
namespace LW
open PySem PySem.Spec L2 DL LC QL
section
variable {P : Program} {w : World} {K : PySem.W.Frag} {mg : Str → Option Value} {base : Heap} {f : Addr} {fd : FuncData} {c T : Addr}
abbrev sEnt : Stmt := topS 19
abbrev psEnt : List Str := ["value", "editions"]
theorem scEnt : FnScope psEnt psEnt (defScope sEnt) := ⟨rfl, rfl, rfl, by decide +kernel, rfl, by decide +kernel, by decide +kernel⟩
/-- an entry of the book -/
def EntOk (eds : List Nat) (x : Nat × Nat × Nat × Nat) : Prop := x.1 < eds.length ∧ x.2.2.1 < eds.length ∧ x.1 ≠ x.2.2.1 ∧ 1 ≤ x.2.1 ∧ x.2.1 ≤ at_ eds x.1 ∧ 1 ≤ x.2.2.2 ∧ x.2.2.2 ≤ at_ eds x.2.2.1
theorem qf_ent (B : Blt mg) (N : NumD P w K mg base) (md : L2.Mod K mg base) (F : Fun K "is_entry" "is_entry" sEnt f fd) (hb : Binds K fd psEnt []) {eds : List Nat} {x : Nat × Nat × Nat × Nat} (h : EntOk eds x) (hz : eds.length ≤ 100000) : QF P w base f 3 [e4 x, eT eds] (.b true) := by
  refine qf_of F md hb rfl (by decide +kernel) (by decide +kernel) rfl rfl rfl fun kV doc pm an cdv ct A L hA hd => ?_
  obtain ⟨h1, h2, h3, h4, h5, h6, h7⟩ := h
  have ok : QX.Ok ⟨P, w, A, PySem.callEnv (PySem.W.fnOf "is_entry" "is_entry" (defArgs sEnt) (defBody sEnt) (defScope sEnt) .none kV doc pm an cdv ct) L f, base, K, mg⟩ := ⟨md, rfl, rfl, rfl, hA⟩
  show QS _ (parF L psEnt [e4 x, eT eds]) _ _
  have v : ∀ pos, QE ⟨P, w, A, PySem.callEnv (PySem.W.fnOf "is_entry" "is_entry" (defArgs sEnt) (defBody sEnt) (defScope sEnt) .none kV doc pm an cdv ct) L f, base, K, mg⟩ (parF L psEnt [e4 x, eT eds]) (.Name "value" pos) (e4 x) := fun pos => q_par ok 0 rfl scEnt.nd rfl
  have u : ∀ pos, QE ⟨P, w, A, PySem.callEnv (PySem.W.fnOf "is_entry" "is_entry" (defArgs sEnt) (defBody sEnt) (defScope sEnt) .none kV doc pm an cdv ct) L f, base, K, mg⟩ (parF L psEnt [e4 x, eT eds]) (.Name "editions" pos) (eT eds) := fun pos => q_par ok 1 rfl scEnt.nd rfl
  have i0 : L2.atI [eN x.1, eN x.2.1, eN x.2.2.1, eN x.2.2.2] 0 = some (.i x.1) := rfl
  have i1 : L2.atI [eN x.1, eN x.2.1, eN x.2.2.1, eN x.2.2.2] 1 = some (.i x.2.1) := rfl
  have i2 : L2.atI [eN x.1, eN x.2.1, eN x.2.2.1, eN x.2.2.2] 2 = some (.i x.2.2.1) := rfl
  have i3 : L2.atI [eN x.1, eN x.2.1, eN x.2.2.1, eN x.2.2.2] 3 = some (.i x.2.2.2) := rfl
  have z4 : [eN x.1, eN x.2.1, eN x.2.2.1, eN x.2.2.2].length ≤ 100000 := by simp
  have ze : (nums (nn eds)).length ≤ 100000 := by rw [nn_len]; exact hz
  have j0 : L2.atI (nums (nn eds)) ((x.1 : Nat) : Int) = some (.i (at_ eds x.1)) := ix_nn h1
  have j2 : L2.atI (nums (nn eds)) ((x.2.2.1 : Nat) : Int) = some (.i (at_ eds x.2.2.1)) := ix_nn h2
  have ln : ∀ pos p p2, QE ⟨P, w, A, PySem.callEnv (PySem.W.fnOf "is_entry" "is_entry" (defArgs sEnt) (defBody sEnt) (defScope sEnt) .none kV doc pm an cdv ct) L f, base, K, mg⟩ (parF L psEnt [e4 x, eT eds]) (.Call (.Name "len" p) [.Name "editions" p2] [] pos) (.i eds.length) := fun pos p p2 => q_is (q_len ok fa_par B.len (u _)) (by rw [nn_len])
  refine qs_ifF (F := parF L psEnt [e4 x, eT eds]) fa_par (QBw.pt (qw_or fa_par (x := false) (qb_not (x := true) (qb_val (q_isi (T := "tuple") ok fa_par B.isi B.tuple (by decide +kernel) (v _) kit_same))) fun _ => qw_or fa_par (x := false) (qb_cmp (i := 4) (j := 4) fa_par cmp_ne (q_len ok fa_par B.len (v _)) q_int) fun _ => qw_or1 (x := false) (qb_not (x := true) (qb_val (qnum ok B N (by show A.depth + 2 < _; omega) fa_par (q_ix fa_par (v _) q_int i0 z4) q_int (q_sub fa_par (ln _ _ _) q_int) (by omega)))))) ?_
  refine qs_ifF (F := parF L psEnt [e4 x, eT eds]) fa_par (QBw.pt (qw_or fa_par (x := false) (qb_not (x := true) (qb_val (qnum ok B N (by show A.depth + 2 < _; omega) fa_par (q_ix fa_par (v _) q_int i1 z4) q_int (q_ix fa_par (u _) (q_ix fa_par (v _) q_int i0 z4) j0 ze) (by omega)))) fun _ => qw_or1 (x := false) (qb_not (x := true) (qb_val (qnum ok B N (by show A.depth + 2 < _; omega) fa_par (q_ix fa_par (v _) q_int i2 z4) q_int (q_sub fa_par (ln _ _ _) q_int) (by omega)))))) ?_
  refine qs_ret (q_is (q_and fa_par (q_cmp fa_par cmp_ne (q_ix fa_par (v _) q_int i0 z4) (q_ix fa_par (v _) q_int i2 z4)) fun _ => q_one (qnum ok B N (by show A.depth + 2 < _; omega) fa_par (q_ix fa_par (v _) q_int i3 z4) q_int (q_ix fa_par (u _) (q_ix fa_par (v _) q_int i2 z4) j2 ze) (by omega))) ?_)
  rw [decide_eq_false (show ¬ (x.1 : Int) = x.2.2.1 by omega)]
  rfl
abbrev sBook : Stmt := topS 20
abbrev nBook : List Str := ["value", "editions", "entry"]
theorem scBook : FnScope nBook ["value", "editions"] (defScope sBook) := ⟨rfl, rfl, rfl, by decide +kernel, rfl, by decide +kernel, by decide +kernel⟩
def pmBook : Pm := ⟨Clk, fun c => [.d (.t (c.bk.map e4)), .d (eT c.eds)], fun c => Good c, fun _ r => r = .d (.b true)⟩
structure EntD (P : Program) (w : World) (K : PySem.W.Frag) (mg : Str → Option Value) (base : Heap) : Prop where
  q : ∃ (f : Addr) (fd : FuncData), Fun K "is_entry" "is_entry" sEnt f fd ∧ mg "is_entry" = some (.ref f) ∧ Binds K fd psEnt []
def kb (x : Nat × Nat × Nat × Nat) : List Int := k3 (x.1, x.2.1, x.2.2.1)
theorem ok_book (B : Blt mg) (N : NumD P w K mg base) (En : EntD P w K mg base) (R : Df P w K mg base 1 "are_rising" ["value"] pmRise) (TB : GxR.TabB base mg c T) (hT : T ∈ tabs K) (F : FunT K "is_book" "is_book" sBook f fd c) : FnOk P w K mg base CX0 3 f fd ["value", "editions"] (spP K pmBook) := by
  refine fn_okT F scBook (fun i => rfl) (fun i _ => by simp [pmBook]) (by decide) fun A outer s H E (c : Clk) hr (hg : Good c) => ?_
  show PSs _ _ (tS K [.d (.t (c.bk.map e4)), .d (eT c.eds), .u] _)
  refine js_cons (js_ifN (jt_is (PW.pt (jw_or (jt_not (jt_val (je_isi (T := "tuple") B.isi B.tuple (by decide +kernel) (jv 0) kit_same))) fun _ => jw_or1 (jt_not (jt_val (je_is (d' := .b true) (je_all1 (caps := [("editions", 1, eT c.eds)]) (tr := fun _ => true) hr TB hT rfl B.all (gscp (defScope sBook) rfl) rfl (jv 0) (fun cc hcc => by
      obtain rfl := List.mem_singleton.mp hcc
      exact ⟨rfl, rfl, rfl, .tail _ (.tail _ (.head _))⟩) fun j d hd A' C code hA hD hU ok => ?_) (by rw [rise_all])))))) rfl) ?_)
  · rw [List.getElem?_map] at hd
    obtain ⟨x, hx9, rfl⟩ := Option.map_eq_some_iff.mp hd
    obtain ⟨f2, fd2, G, hm, hb⟩ := En.q
    exact q_call ok (qf_ent B N ok.mod G hb (hg.bv x (List.mem_of_getElem? hx9)) (by have := hg.n3; omega)) (dep hr hD (by decide)) hm G.kp (qa_cons (fa1 fa_cap) (q1_x ok rfl rfl) (qa_cons (fa1 fa_cap) (q_free ok rfl (fun h ⟨_, hh⟩ => hh _ List.mem_cons_self)) qa_nil))
  · refine js_one (js_ret (jc R (.inr (c.bk.map kb)) hr (by decide) (ja_cons (je_is (je_tupleL B.tuple (je_fp (je_lc (xs := c.bk) (enc := e4) (f := fun x => .t (nums (kb x))) (pb := fun _ => true) (Γe := fun x => [.d (.t (c.bk.map e4)), .d (eT c.eds), .d (e4 x)]) [("entry", 2)] rfl scBook.nd (ji_tup (jv 0)) (blkOk_by (N := nBook) (sc := defScope sBook) (by decide +kernel)) (tg_name 2) (by decide) rfl (fun x _ => rfl) (by have := hg.bn; omega) (fun _ _ _ _ _ => pg_name scBook.nd rfl (Or.inl rfl)) (fun _ _ _ _ _ _ _ => jts_nil) (fun x _ _ _ _ _ _ _ => je_is (je_to (jv 2) je_int) rfl)))) ?_) ja_nil) ?_ fun r h => h) rfl)
    · rw [List.filter_eq_self.mpr (fun _ _ => rfl), List.map_map]
      rfl
    · exact List.pairwise_map.mpr (hg.bs.imp fun h => lex3 h)
/-! ### need_clock -/
abbrev sNC : Stmt := topS 21
abbrev nNC : List Str := ["value", "period", "editions", "touches", "gaps", "book"]
theorem scNC : FnScope nNC ["value"] (defScope sNC) := ⟨rfl, rfl, rfl, by decide +kernel, rfl, by decide +kernel, by decide +kernel⟩
def pmNC : Pm := ⟨Clk, fun c => [.d (eC c)], fun c => Good c, fun _ r => r = .d .non⟩
theorem ok_nc {tp : Tok} (B : Blt mg) (N : NumD P w K mg base) (hp : mg "MOST_PERIOD" = some (.int 12 tp)) (G1 : Df P w K mg base 2 "are_editions" ["value"] pmEds) (G2 : Df P w K mg base 3 "are_touches" ["value", "period", "wheels"] pmTch) (G3 : Df P w K mg base 3 "are_gaps" ["value", "period", "editions"] pmGps) (G4 : Df P w K mg base 3 "is_book" ["value", "editions"] pmBook) (F : Fun K "need_clock" "need_clock" sNC f fd) : FnOk P w K mg base CX0 4 f fd ["value"] (spP K pmNC) := by
  refine fn_ok F scNC (fun i => rfl) (fun i _ => by simp [pmNC]) (by decide) fun cdv A outer s H E (c : Clk) hr (hg : Good c) => ?_
  show PSs _ _ (tS K [.d (eC c), .u, .u, .u, .u, .u] _)
  refine js_cons (js_ifN (jt_is (PW.pt (jw_or (jt_not (jt_val (je_isi (T := "tuple") B.isi B.tuple (by decide +kernel) (jv 0) kit_same))) fun _ => jw_or1 (jt_neI (je_lenT B.len (jv 0)) je_int))) rfl) ?_)
  refine js_cons (js_asg (jv 0) (pg_tup rfl (pgs_cons (pg_name (i := 1) scNC.nd rfl (.inl rfl)) (pgs_cons (pg_name (i := 2) scNC.nd rfl (.inl rfl)) (pgs_cons (pg_name (i := 3) scNC.nd rfl (.inl rfl)) (pgs_cons (pg_name (i := 4) scNC.nd rfl (.inl rfl)) (pgs_cons (pg_name (i := 5) scNC.nd rfl (.inl rfl)) pgs_nil)))))) (tg_names [1, 2, 3, 4, 5]) (Γ' := [.d (eC c), .d (eN c.per), .d (eT c.eds), .d (.t (c.tch.map e3)), .d (.t (c.gps.map eT)), .d (.t (c.bk.map e4))]) rfl ?_)
  have h4 := hg.per4
  have h0 := hg.per0
  refine js_cons (js_ifN (jt_is (jt_not (jt_val (jnum N hr (by decide) (jv 1) je_int (je_globI rfl hp) (by omega)))) rfl) ?_)
  refine js_cons (js_ifN (jt_is (jt_not (jt_val (jc G1 c.eds hr (by decide) (ja_cons (jv 2) ja_nil) ⟨hg.n0, hg.n3, hg.ed, by have := hg.sum; omega⟩ fun r h => h))) rfl) ?_)
  refine js_cons (js_ifN (jt_is (jt_not (jt_val (jc G2 c hr (by decide) (ja_cons (jv 3) (ja_cons (jv 1) (ja_cons (je_is (je_lenT B.len (jv 2)) (by rw [nn_len]; rfl)) ja_nil))) hg fun r h => h))) rfl) ?_)
  refine js_cons (js_ifN (jt_is (jt_not (jt_val (jc G3 c hr (by decide) (ja_cons (jv 4) (ja_cons (jv 1) (ja_cons (jv 2) ja_nil))) hg fun r h => h))) rfl) ?_)
  exact js_one (js_ifN (jt_is (jt_not (jt_val (jc G4 c hr (by decide) (ja_cons (jv 5) (ja_cons (jv 2) ja_nil)) hg fun r h => h))) rfl) rfl)
end
end LW
end

section
set_option Elab.async false
set_option linter.all false
set_option maxRecDepth 100000
set_option maxHeartbeats 4000000
/-! E8: defs with defaults; need_tick, need_standing, need_midst, need_phase, need_few, need_game. -/
namespace LW
open PySem PySem.Spec L2 DL LC QL
section
variable {P : Program} {w : World} {K : PySem.W.Frag} {mg : Str → Option Value} {base : Heap} {f : Addr} {fd : FuncData} {c T : Addr}
/-- a def of the text with its defaults -/
abbrev FunE (K : PySem.W.Frag) (x : Str) (st : Stmt) (dvs : List V) (f : Addr) (fd : FuncData) : Prop := FunD K x x (defArgs st) (defBody st) (defScope st) dvs [] f fd
theorem fn_okD {x : Str} {st : Stmt} {dvs : List V} {N ps : List Str} {k : Nat} {m : Pm} (F : FunE K x st dvs f fd) (S : FnScope N ps (defScope st)) (hlen : ∀ i, (m.A i).length = ps.length) (hno : ∀ i c, Sl.o c ∉ m.A i) (hps : ps.length ≤ N.length)
    (hbody : ∀ (cdv : Value) (A : Around) (outer : List Env) (s : Shared) (H : Hp) (E : XK) (i : m.ix), Room k (A.deeper (PyProof.Rows.envOfC x (defScope st) s.heap.objs.size f cdv)) → m.G i →
      PSs (cxOf CX0 P w K mg base N x (defScope st) f cdv A outer s H E).nox (defBody st) (tS K (m.A i ++ List.replicate (N.length - (m.A i).length) .u) (fun o => match o with
        | .rt _ r => m.R i r
        | .nx _ => m.R i (.d .non)
        | .ct _ => False))) : FnOk P w K mg base CX0 (k + 1) f fd ps (spP K m) := by
  refine F.ok S (fun vs H Q E ⟨i, hi, _, h, _⟩ => by rw [RVs.len h]; exact hlen i) (fun cdv A outer s H vs Q E hr ⟨i, hi, ht, h, q⟩ => ?_)
  refine ⟨_, (hbody cdv A outer s H E i hr hi).nox, H, ok_start h (by rw [hlen i]; exact hps) (hno i) ht, fun Γ' σ' H' hn k => ?_, fun Γ' σ' H' r' v hr' k rv => ?_, fun _ _ _ z => z.elim⟩
  · exact q _ _ H' hn (k.base.trans minus_keep) rfl
  · exact q _ _ H' hr' (k.base.trans minus_keep) rv
/-- a def, called with its last values left out -/
structure DfD (P : Program) (w : World) (K : PySem.W.Frag) (mg : Str → Option Value) (base : Heap) (k : Nat) (x : Str) (ps : List Str) (m : Pm) (dvs : List V) : Prop where
  ex : ∃ (f : Addr) (fd : FuncData) (ds : List Value), FnOk P w K mg base CX0 k f fd ps (spP K m) ∧ mg x = some (.ref f) ∧ PySem.W.keepIn K (.ref f) = true ∧ Vals dvs ds ∧ Binds K fd ps ds
theorem RVs.app {B : Hp} : ∀ {ss sl : List Sl} {vs ws : List V}, RVs K B ss vs → RVs K B sl ws → RVs K B (ss ++ sl) (vs ++ ws)
  | [], sl, vs, ws, h, h' => by
    rw [show vs = [] from h]
    exact h'
  | s :: ss, sl, _, ws, ⟨v, r, e, h1, h2⟩, h' => by
    subst e
    exact ⟨v, r ++ ws, rfl, h1, RVs.app h2 h'⟩
theorem jcD {X : Cx} {Γ : En} {e : Expr} {es : List Expr} {p pos : Pos} {k j : Nat} {x : Str} {ps : List Str} {m : Pm} {dvs : List V} {ss sl : List Sl} {d : D} (G : DfD X.prog X.w X.K X.mg X.base k x ps m dvs) (i : m.ix) (hr : Room j X.A) (hk : k ≤ j) (hsl : ∀ B, RVs X.K B sl dvs) (hA : m.A i = ss ++ sl) (ha : PA X (e :: es) (tA X.K Γ ss)) (h0 : m.G i) (h1 : ∀ r, m.R i r → r = .d d)
    (hg : Gl X x := by rfl) (hdb : (x == ("__debug__" : Str)) = false := by decide) (he : starEach (e :: es) X.env = (false, eval e X.env) :: starEach es X.env := by rfl) (hpl : (backTo pos (starEach es X.env)).any (·.1) = false := by rfl) :
    PE X (.Call (.Name x p) (e :: es) [] pos) (tR X.K Γ (.d d)) := by
  obtain ⟨f, fd, ds, F, hm, kp, hv, b⟩ := G.ex
  exact pe_imp (pe_call (dvs := dvs) F (hr.mono hk) hg hm kp b hv pass0 ha hdb he hpl) fun σ H Q ⟨Z, k, q⟩ => ⟨Z, k, fun vs H1 n r1 => by
    show spP X.K m (vs ++ dvs) H1 Q E0
    refine ⟨i, h0, fun P hP => minus_keep.tabG (n.ok.tb P hP), by rw [hA]; exact RVs.app (r1.k minus_keep) (hsl _), fun r v H2 hp kp rv => ?_⟩
    rw [h1 r hp] at rv
    exact q v H2 (n.trans (Nx.of_keep n.ok kp)) (Dn.k rv (n.ok.keep kp).tk)⟩
/-! ### need_tick, need_phase -/
abbrev sTick : Stmt := topS 22
theorem scTick : FnScope psNum psNum (defScope sTick) := ⟨rfl, rfl, rfl, by decide +kernel, rfl, by decide +kernel, by decide +kernel⟩
def pmTick : Pm := ⟨Int × Int × Int, fun (n, lo, hi) => [.d (.i n), .d (.i lo), .d (.i hi)], fun (n, lo, hi) => lo ≤ n ∧ n ≤ hi, fun _ r => r = .d .non⟩
theorem ok_tick {dvs : List V} (N : NumD P w K mg base) (F : FunE K "need_tick" sTick dvs f fd) : FnOk P w K mg base CX0 2 f fd psNum (spP K pmTick) := by
  refine fn_okD F scTick (fun _ => rfl) (fun _ _ => by simp [pmTick]) (by decide) fun cdv A outer s H E ⟨n, lo, hi⟩ hr h => ?_
  show PSs _ _ (tS K [.d (.i n), .d (.i lo), .d (.i hi)] _)
  exact js_one (js_ifN (jt_is (jt_not (jt_val (jnum N hr (by decide) (jv 0) (jv 1) (jv 2) h))) rfl) rfl)
abbrev sPhase : Stmt := topS 48
abbrev nPhase : List Str := ["clock", "value"]
theorem scPhase : FnScope nPhase nPhase (defScope sPhase) := ⟨rfl, rfl, rfl, by decide +kernel, rfl, by decide +kernel, by decide +kernel⟩
def pmPhase : Pm := ⟨Clk × Nat, fun (c, p) => [.d (eC c), .d (eN p)], fun (c, p) => p < c.per, fun _ r => r = .d .non⟩
theorem ok_phase (N : NumD P w K mg base) (F : Fun K "need_phase" "need_phase" sPhase f fd) : FnOk P w K mg base CX0 2 f fd nPhase (spP K pmPhase) := by
  refine fn_ok F scPhase (fun _ => rfl) (fun _ _ => by simp [pmPhase]) (by decide) fun cdv A outer s H E ⟨c, p⟩ hr h => ?_
  replace h : p < c.per := h
  show PSs _ _ (tS K [.d (eC c), .d (eN p)] _)
  exact js_one (js_ifN (jt_is (jt_not (jt_val (jnum N hr (by decide) (jv 1) je_int (je_sub (je_ix (jv 0) je_int) je_int) (by omega)))) rfl) rfl)
/-! ### need_standing -/
abbrev sStd : Stmt := topS 37
theorem scStd : FnScope nPhase nPhase (defScope sStd) := ⟨rfl, rfl, rfl, by decide +kernel, rfl, by decide +kernel, by decide +kernel⟩
def pmStd : Pm := ⟨Clk × List Nat, fun (c, s) => [.d (eC c), .d (eT s)], fun (c, s) => Good c ∧ Std c s, fun _ r => r = .d .non⟩
theorem ok_std (B : Blt mg) (N : NumD P w K mg base) (TB : GxR.TabB base mg c T) (hT : T ∈ tabs K) (F : FunT K "need_standing" "need_standing" sStd f fd c) : FnOk P w K mg base CX0 2 f fd nPhase (spP K pmStd) := by
  refine fn_okT F scStd (fun _ => rfl) (fun _ _ => by simp [pmStd]) (by decide) fun A outer s H E ⟨c, t⟩ hr ⟨hg, hs⟩ => ?_
  show PSs _ _ (tS K [.d (eC c), .d (eT t)] _)
  have hl : (nums (nn t)).length = (nums (nn c.eds)).length := by rw [nn_len, nn_len, hs.len]
  refine js_cons (js_ifN (jt_is (PW.pt (jw_or (jt_not (jt_val (je_isi (T := "tuple") B.isi B.tuple (by decide +kernel) (jv 1) kit_same))) fun _ => jw_or1 (jt_neI (je_lenT B.len (jv 1)) (je_lenT B.len (je_ix (jv 0) je_int))))) ?_) ?_)
  · rw [hl, decide_eq_true rfl]
    rfl
  · refine js_one (js_ifN (jt_is (jt_not (jt_val (je_is (d' := .b true) (je_all2 (caps := []) (tr := fun _ => true) hr TB hT rfl B.all B.zip (gscp (defScope sStd) rfl) rfl rfl (by decide) (jv 1) (je_ix (jv 0) je_int) (by simp) fun i d1 d2 hi h1 h2 A' C code hA hD hU ok => ?_) (by rw [rise_all])))) rfl) rfl)
    rw [nums_nn, List.getElem?_map] at h1 h2
    obtain ⟨x, hx, rfl⟩ := Option.map_eq_some_iff.mp h1
    obtain ⟨y, hy, rfl⟩ := Option.map_eq_some_iff.mp h2
    have h9 := hs.le i
    unfold at_ at h9
    rw [List.getD_eq_getElem?_getD, List.getD_eq_getElem?_getD, hx, hy] at h9
    have h9 : x ≤ y := h9
    exact qnum ok B N (dep hr hD (by decide)) (fa2 fa_cap) (q2_x ok rfl rfl) q_int (q2_y ok rfl rfl) (by omega)
/-! ### need_midst -/
abbrev sMid : Stmt := topS 43
abbrev nMid : List Str := ["clock", "tick", "standing"]
theorem scMid : FnScope nMid nMid (defScope sMid) := ⟨rfl, rfl, rfl, by decide +kernel, rfl, by decide +kernel, by decide +kernel⟩
def pmMid : Pm := ⟨Clk × Nat × List Nat, fun (c, p, s) => [.d (eC c), .d (eN p), .d (eT s)], fun (c, p, s) => Good c ∧ Std c s ∧ p < c.per, fun _ r => r = .d .non⟩
theorem ok_mid (G1 : Df P w K mg base 4 "need_clock" ["value"] pmNC) (G2 : DfD P w K mg base 2 "need_tick" psNum pmTick [.int 0, .int (10 ^ 30)]) (G3 : Df P w K mg base 2 "need_standing" nPhase pmStd) (F : Fun K "need_midst" "need_midst" sMid f fd) : FnOk P w K mg base CX0 5 f fd nMid (spP K pmMid) := by
  refine fn_ok F scMid (fun _ => rfl) (fun _ _ => by simp [pmMid]) (by decide) fun cdv A outer s H E ⟨c, p, t⟩ hr ⟨hg, hs, hp⟩ => ?_
  have h4 := hg.per4
  show PSs _ _ (tS K [.d (eC c), .d (eN p), .d (eT t)] _)
  refine js_cons (js_expr (jc G1 c hr (by decide) (ja_cons (jv 0) ja_nil) hg fun r h => h) ?_)
  refine js_cons (js_expr (jcD G2 ((p : Int), 0, 10 ^ 30) hr (by decide) (sl := [.d (.i 0), .d (.i (10 ^ 30))]) (fun B => ⟨_, _, rfl, rfl, _, _, rfl, rfl, rfl⟩) rfl (ja_cons (jv 1) ja_nil) (by constructor <;> omega) fun r h => h) ?_)
  exact js_one (js_expr (jc G3 (c, t) hr (by decide) (ja_cons (jv 0) (ja_cons (jv 2) ja_nil)) ⟨hg, hs⟩ fun r h => h) rfl)
end
end LW
end

section
set_option Elab.async false
set_option linter.all false
set_option maxRecDepth 100000
set_option maxHeartbeats 4000000
/-! E9: need_few, need_game, needs_of, every_lean, still_to_do, next_touch, done, every_standing, subsets. -/
namespace LC
def srt2 (l : List (Nat × Nat)) : List (Nat × Nat) := l.mergeSort fun a b => decide (TS.code 64 (key2 a) ≤ TS.code 64 (key2 b))
/-- an other wheel that the exchange needs -/
def nPb (c : Clk) (x : Nat × Nat) (o : Nat) : Bool := decide (o ≠ x.1) && (!(phasesOf c x.1 o).isEmpty && decide (0 < needed c x.1 x.2 o))
def needsOf (c : Clk) (x : Nat × Nat) : List (Nat × Nat) := srt2 (needs0 c x)
def leans (c : Clk) : List ((Nat × Nat) × (Nat × Nat)) := (exch c).flatMap fun x => (needsOf c x).map fun y => (x, y)
/-- next_touch, where there is one -/
def nextT (c : Clk) (i j : Nat) (t : Int) : Int := up (fun t => decide (ph c t ∈ phasesOf c i j)) c.per t
def doneS (s deed : List Nat) : List Nat := s.zipIdx.map fun p => p.1 + if p.2 ∈ deed then 1 else 0
def subs (deed : List Nat) : List (List Nat) := deed.foldl (fun acc w => acc ++ acc.map fun o => o ++ [w]) [[]]
def stds (eds : List Nat) : List (List Nat) := eds.foldl (fun acc l => acc.flatMap fun s => (List.range (l + 1)).map fun e => s ++ [e]) [[]]
theorem code_key2 (a : Nat × Nat) : TS.code 64 (key2 a) = (a.1 : Int) * 64 + a.2 := by
  show (a.1 : Int) * 64 ^ [(a.2 : Int)].length + ((a.2 : Int) * 64 ^ ([] : List Int).length + 0) = _
  simp
theorem srt2_perm (l : List (Nat × Nat)) : (srt2 l).Perm l := List.mergeSort_perm _ _
/-- what is sorted by the codes is srt2 -/
theorem srt2_uniq {l l' : List (Nat × Nat)} (hb : ∀ x ∈ l, x.1 < 64 ∧ x.2 < 64) (hp : l'.Perm l) (hs : l'.Pairwise fun a b => TS.code 64 (key2 a) ≤ TS.code 64 (key2 b)) : l' = srt2 l := by
  have h2 : (srt2 l).Pairwise fun a b => TS.code 64 (key2 a) ≤ TS.code 64 (key2 b) := by
    have := List.pairwise_mergeSort (le := fun a b => decide (TS.code 64 (key2 a) ≤ TS.code 64 (key2 b))) (fun a b c h1 h2 => by
      rw [decide_eq_true_iff] at h1 h2 ⊢
      omega) (fun a b => by
      rw [Bool.or_eq_true, decide_eq_true_iff, decide_eq_true_iff]
      omega) l
    exact this.imp fun h => of_decide_eq_true h
  refine List.Perm.eq_of_pairwise (le := fun a b => TS.code 64 (key2 a) ≤ TS.code 64 (key2 b)) (fun a b ha hb2 h1 h3 => ?_) hs h2 (hp.trans (srt2_perm l).symm)
  have b1 := hb a (hp.mem_iff.mp ha)
  have b2 := hb b ((srt2_perm l).mem_iff.mp hb2)
  rw [code_key2, code_key2] at h1 h3
  ext <;> omega
end LC
namespace LW
open PySem PySem.Spec L2 DL LC QL
section
variable {P : Program} {w : World} {K : PySem.W.Frag} {mg : Str → Option Value} {base : Heap} {f : Addr} {fd : FuncData} {c T : Addr}
abbrev sFew : Stmt := topS 49
abbrev nFew : List Str := ["clock", "many", "last"]
theorem scFew : FnScope nFew ["clock"] (defScope sFew) := ⟨rfl, rfl, rfl, by decide +kernel, rfl, by decide +kernel, by decide +kernel⟩
def pmFew : Pm := ⟨Clk, fun c => [.d (eC c)], fun c => Good c, fun _ r => r = .d .non⟩
theorem ok_few {t : Tok} (hp : mg "MOST_PAIRS" = some (.int 4000 t)) (F : Fun K "need_few" "need_few" sFew f fd) : FnOk P w K mg base CX0 1 f fd ["clock"] (spP K pmFew) := by
  refine fn_ok F scFew (fun _ => rfl) (fun _ _ => by simp [pmFew]) (by decide) fun cdv A outer s H E (c : Clk) hr (hg : Good c) => ?_
  show PSs _ _ (tS K [.d (eC c), .u, .u] _)
  have h4 := hg.per4
  refine js_cons (js_set 1 scFew.nd (je_ix (jv 0) je_int) ?_)
  refine js_cons (js_for (ds := nums (nn c.eds)) (fun i Γ => ∃ (m : Nat) (x : Sl), m ≤ 4 * 3 ^ i ∧ Γ = [.d (eC c), .d (eN m), x]) PassesOwn.never rfl (ji_tup (je_ix (jv 0) je_int)) (pg_name scFew.nd rfl (Or.inl rfl)) (tg_name 2) ⟨c.per, .u, by omega, rfl⟩ (fun i d Γ' hd hI => ?_) fun Γ' hI => ?_)
  · obtain ⟨m, x, hm, rfl⟩ := hI
    rw [nums_nn, List.getElem?_map] at hd
    obtain ⟨l, hl, rfl⟩ := Option.map_eq_some_iff.mp hd
    have h2 := hg.ed l (List.mem_of_getElem? hl)
    have hi : i < 3 := by have := (List.getElem?_eq_some_iff.mp hl).1; have := hg.n3; omega
    have h9 : m * (l + 1) ≤ 4 * 3 ^ (i + 1) := by
      have := Nat.mul_le_mul hm (show l + 1 ≤ 3 by omega)
      rw [Nat.pow_succ]
      omega
    have h10 : m ≤ 108 := by
      have : 3 ^ i ≤ 3 ^ 2 := Nat.pow_le_pow_right (by decide) (by omega)
      omega
    refine ⟨[.d (eC c), .d (eN m), .d (eN l)], rfl, js_one (js_augI 1 iop_mul (o2_I (C := CMul) (g := fun i j => i * j) (.inl ?_)) scFew.nd rfl (je_add (jv 2) je_int) ⟨m * (l + 1), .d (eN l), h9, ?_⟩)⟩
    · constructor <;> omega
    · show [_, _, _] = [_, _, _]
      congr 3
  · obtain ⟨m, x, hm, rfl⟩ := hI
    rw [nn_len] at hm
    have h3 := hg.n3
    have : 3 ^ c.eds.length ≤ 3 ^ 3 := Nat.pow_le_pow_right (by decide) h3
    refine js_one (js_ifN (jt_is (jt_gt (jv 1) (je_globI rfl hp)) ?_) rfl)
    rw [decide_eq_false_iff_not]
    omega
/-! ### need_game -/
abbrev sGame : Stmt := topS 57
abbrev nGame : List Str := ["clock", "phase", "standing", "misses"]
theorem scGame : FnScope nGame nGame (defScope sGame) := ⟨rfl, rfl, rfl, by decide +kernel, rfl, by decide +kernel, by decide +kernel⟩
def pmGame : Pm := ⟨Clk × Nat × List Nat × Nat, fun (c, p, s, m) => [.d (eC c), .d (eN p), .d (eT s), .d (eN m)], fun (c, p, s, m) => Good c ∧ Std c s ∧ p < c.per ∧ m ≤ 12, fun _ r => r = .d .non⟩
theorem ok_game {dvs : List V} {t : Tok} (N : NumD P w K mg base) (hm : mg "MOST_MISSES" = some (.int 12 t)) (G1 : Df P w K mg base 4 "need_clock" ["value"] pmNC) (G2 : Df P w K mg base 2 "need_phase" nPhase pmPhase) (G3 : Df P w K mg base 2 "need_standing" nPhase pmStd) (G4 : Df P w K mg base 1 "need_few" ["clock"] pmFew) (F : FunE K "need_game" sGame dvs f fd) : FnOk P w K mg base CX0 5 f fd nGame (spP K pmGame) := by
  refine fn_okD F scGame (fun _ => rfl) (fun _ _ => by simp [pmGame]) (by decide) fun cdv A outer s H E ⟨c, p, t, m⟩ hr ⟨hg, hs, hp, h⟩ => ?_
  show PSs _ _ (tS K [.d (eC c), .d (eN p), .d (eT t), .d (eN m)] _)
  refine js_cons (js_expr (jc G1 c hr (by decide) (ja_cons (jv 0) ja_nil) hg fun r h => h) ?_)
  refine js_cons (js_expr (jc G2 (c, p) hr (by decide) (ja_cons (jv 0) (ja_cons (jv 1) ja_nil)) hp fun r h => h) ?_)
  refine js_cons (js_expr (jc G3 (c, t) hr (by decide) (ja_cons (jv 0) (ja_cons (jv 2) ja_nil)) ⟨hg, hs⟩ fun r h => h) ?_)
  refine js_cons (js_ifN (jt_is (jt_not (jt_val (jnum N hr (by decide) (jv 3) je_int (je_globI rfl hm) (by omega)))) rfl) ?_)
  exact js_one (js_expr (jc G4 c hr (by decide) (ja_cons (jv 0) ja_nil) hg fun r h => h) rfl)
/-! ### needs_of, every_lean -/
abbrev sNeeds : Stmt := topS 31
abbrev nNeeds : List Str := ["clock", "exchange", "wheel", "edition", "found", "other", "least"]
theorem scNeeds : FnScope nNeeds ["clock", "exchange"] (defScope sNeeds) := ⟨rfl, rfl, rfl, by decide +kernel, rfl, by decide +kernel, by decide +kernel⟩
def pmNeeds (K : PySem.W.Frag) : Pm := ⟨Clk × (Nat × Nat), fun (c, x) => [.d (eC c), .d (e2 x)], fun (c, x) => Good c ∧ x ∈ exch c, fun (c, x) r => r = .o (cl K ((needsOf c x).map e2))⟩
theorem needed_le {c : Clk} (hg : Good c) (w e o : Nat) : needed c w e o ≤ 2 := by
  unfold needed
  rcases lmax_mem (((needs1 c w o).filter fun x => decide (x.2.1 ≤ e)).map fun x => x.2.2.2) with h | h
  · rw [h]
    decide
  · obtain ⟨x, hx, e⟩ := List.mem_map.mp h
    rw [← e]
    unfold needs1 at hx
    obtain ⟨h1, h2, h3, h4, h5, h6, h7⟩ := hg.bv x (List.mem_filter.mp (List.mem_filter.mp hx).1).1
    refine Nat.le_trans h7 (hg.ed _ (List.mem_of_getElem? (at_get h2)))
theorem exch_le {c : Clk} (hg : Good c) {x : Nat × Nat} (h : x ∈ exch c) : x.1 < 3 ∧ x.2 ≤ 2 ∧ 1 ≤ x.2 := by
  obtain ⟨h1, h2, h3⟩ := mem_exch.mp h
  have := hg.n3
  have := hg.ed _ (List.mem_of_getElem? (at_get h1))
  omega
theorem needs0_le {c : Clk} (hg : Good c) {x : Nat × Nat} (hx : x ∈ exch c) : ∀ y ∈ needs0 c x, y.1 < 64 ∧ y.2 < 64 := by
  have := exch_le hg hx
  intro y hy
  unfold needs0 at hy
  rcases List.mem_append.mp hy with h | h
  · split at h
    · obtain rfl := List.mem_singleton.mp h
      exact ⟨by show x.1 < 64; omega, by show x.2 - 1 < 64; omega⟩
    · cases h
  · obtain ⟨o, ho, rfl⟩ := List.mem_map.mp h
    have h1 := List.mem_range.mp (List.mem_filter.mp ho).1
    have h2 := needed_le hg x.1 x.2 o
    have := hg.n3
    exact ⟨by show o < 64; omega, by show needed c x.1 x.2 o < 64; omega⟩
theorem needs0_len {c : Clk} (hg : Good c) (x : Nat × Nat) : (needs0 c x).length ≤ 4 := by
  unfold needs0
  rw [List.length_append, List.length_map]
  have h1 := List.length_filter_le (fun o => decide (o ≠ x.1) && (!(phasesOf c x.1 o).isEmpty && decide (0 < needed c x.1 x.2 o))) (List.range c.eds.length)
  rw [List.length_range] at h1
  have := hg.n3
  split
  · simp only [List.length_cons, List.length_nil]
    omega
  · simp only [List.length_nil]
    omega
theorem ok_needs (B : Blt mg) (GP : Df P w K mg base 1 "phases_of" psPhases (pmPhases K)) (GL : Df P w K mg base 1 "least_needed" psLeast pmLeast) (F : Fun K "needs_of" "needs_of" sNeeds f fd) : FnOk P w K mg base CX0 2 f fd ["clock", "exchange"] (spP K (pmNeeds K)) := by
  refine fn_ok F scNeeds (fun _ => rfl) (fun _ _ => by simp [pmNeeds]) (by decide) fun cdv A outer s H E ⟨c, x⟩ hr ⟨hg, hx⟩ => ?_
  show PSs _ _ (tS K [.d (eC c), .d (e2 x), .u, .u, .u, .u, .u] _)
  have hx9 := exch_le hg hx
  have hb : c.bk.length ≤ 1000 := by have := hg.bn; omega
  have ht : c.tch.length ≤ 1000 := by have := hg.tn; omega
  refine js_cons (js_asg (jv 1) (pg_tup rfl (pgs_cons (pg_name (i := 2) scNeeds.nd rfl (.inl rfl)) (pgs_cons (pg_name (i := 3) scNeeds.nd rfl (.inl rfl)) pgs_nil))) (tg_names [2, 3]) (Γ' := [.d (eC c), .d (e2 x), .d (eN x.1), .d (eN x.2), .u, .u, .u]) rfl ?_)
  refine js_cons (js_setF 4 (P := (· = cl K ((if 1 < x.2 then [(x.1, x.2 - 1)] else []).map e2))) scNeeds.nd (je_ifF (jt_gt (jv 3) je_int) (fun q => ?_) (fun q => ?_)) fun cc hc => ?_)
  · have q : (1 : Int) < x.2 := of_decide_eq_true q
    rw [if_pos (by omega)]
    refine je_lst (ds := [e2 (x.1, x.2 - 1)]) (ja_cons (je_tup (ds := [eN x.1, eN (x.2 - 1)]) (ja_cons (jv 2) (ja_cons (je_is (je_sub (jv 3) je_int) ?_) ja_nil))) ja_nil)
    show D.i _ = D.i _
    congr 1
    show (x.2 : Int) - 1 = ((x.2 - 1 : Nat) : Int)
    omega
  · have q : ¬ (1 : Int) < x.2 := of_decide_eq_false q
    rw [if_neg (by omega)]
    exact je_lst (ds := []) ja_nil
  · subst hc
    refine js_cons (js_for (ds := nums (rng 0 c.eds.length)) (fun i Γ => ∃ (a b : Sl), Γ = [.d (eC c), .d (e2 x), .d (eN x.1), .d (eN x.2), .o (cl K ((if 1 < x.2 then [(x.1, x.2 - 1)] else []).map e2 ++ (((List.range c.eds.length).take i).filter (nPb c x)).map fun o => e2 (o, needed c x.1 x.2 o))), a, b]) PassesOwn.never rfl
      (ji_range1 B.range (je_is (je_lenT B.len (je_ix (jv 0) je_int)) (by rw [nn_len])) (by have := hg.n3; omega)) (pg_name scNeeds.nd rfl (Or.inl rfl)) (tg_name 5) ⟨.u, .u, by simp⟩ (fun i d Γ' hd hI => ?_) fun Γ' hI => ?_)
    · obtain ⟨a, b, rfl⟩ := hI
      rw [rng_nn, List.getElem?_map] at hd
      obtain ⟨o, ho, rfl⟩ := Option.map_eq_some_iff.mp hd
      have hi : i < c.eds.length := by have := (List.getElem?_eq_some_iff.mp ho).1; rwa [List.length_range] at this
      obtain rfl : i = o := by rw [List.getElem?_range hi] at ho; exact Option.some.inj ho
      have ft := filt_take (nPb c x) (fun o => e2 (o, needed c x.1 x.2 o)) ho
      have hn3 := hg.n3
      have hlen : ((if 1 < x.2 then [(x.1, x.2 - 1)] else []).map e2 ++ (((List.range c.eds.length).take i).filter (nPb c x)).map fun o => e2 (o, needed c x.1 x.2 o)).length < 100000 := by
        rw [List.length_append, List.length_map, List.length_map]
        have h1 := List.length_filter_le (nPb c x) ((List.range c.eds.length).take i)
        rw [List.length_take, List.length_range] at h1
        split <;> simp only [List.length_cons, List.length_nil] <;> omega
      refine ⟨_, rfl, js_one (js_if (PW.pt (jw_and (jt_neI (jv 5) (jv 2)) fun _ => jw_and1 (jt_tru (je_fp (jcF GP (c, x.1, i) hr (by decide) (ja_cons (jv 0) (ja_cons (jv 2) (ja_cons (jv 5) ja_nil))) ht fun r h => ⟨_, h, rfl⟩)) truL_pl))) (fun q => ?_) (fun q => ?_))⟩
      · rw [Bool.and_eq_true] at q
        have q1 : i ≠ x.1 := by
          have := q.1
          simp only [Bool.not_eq_true', decide_eq_false_iff_not] at this
          omega
        have q2 : (phasesOf c x.1 i).isEmpty = false := by
          have := q.2
          rw [nums_nn] at this
          simpa using this
        refine js_cons (js_set 6 scNeeds.nd (jc GL (c, x.1, x.2, i) hr (by decide) (ja_cons (jv 0) (ja_cons (jv 2) (ja_cons (jv 3) (ja_cons (jv 5) ja_nil)))) hb fun r h => h) ?_)
        refine js_one (js_if (jt_gt (jv 6) je_int) (fun q3 => ?_) (fun q3 => ?_))
        · have q3 : (0 : Int) < ((needed c x.1 x.2 i : Nat) : Int) := of_decide_eq_true q3
          have hp : nPb c x i = true := by
            unfold nPb
            rw [decide_eq_true q1, q2, decide_eq_true (show 0 < needed c x.1 x.2 i by omega)]
            rfl
          rw [if_pos hp] at ft
          refine js_one (js_append 4 rfl (je_tup (ds := [eN i, eN (needed c x.1 x.2 i)]) (ja_cons (jv 5) (ja_cons (jv 6) ja_nil))) hlen ⟨.d (eN i), .d (eN (needed c x.1 x.2 i)), by rw [ft, ← List.append_assoc]; rfl⟩ (hw := pe_bm PySem.F.plainAttrs_list PySem.F.slot_list_append PySem.F.type_list_append mt_append (pv 4) (pa_cons (je_tup (ds := [eN i, eN (needed c x.1 x.2 i)]) (ja_cons (jv 5) (ja_cons (jv 6) ja_nil))) pa_nil)))
        · have q3 : ¬ (0 : Int) < ((needed c x.1 x.2 i : Nat) : Int) := of_decide_eq_false q3
          have hp : nPb c x i = false := by
            unfold nPb
            rw [decide_eq_false (show ¬ 0 < needed c x.1 x.2 i by omega)]
            simp
          rw [if_neg (by rw [hp]; decide)] at ft
          exact js_nil ⟨.d (eN i), .d (eN (needed c x.1 x.2 i)), by rw [ft]; rfl⟩
      · have hp : nPb c x i = false := by
          unfold nPb
          rw [Bool.and_eq_false_iff] at q ⊢
          rcases q with q | q
          · left
            rw [Bool.not_eq_false', decide_eq_true_iff] at q
            rw [decide_eq_false_iff_not]
            omega
          · right
            rw [nums_nn] at q
            have : (phasesOf c x.1 i).isEmpty = true := by simpa using q
            rw [this]
            rfl
        rw [if_neg (by rw [hp]; decide)] at ft
        exact js_nil ⟨.d (eN i), b, by rw [ft]; rfl⟩
    · obtain ⟨a, b, rfl⟩ := hI
      have e9 : ((if 1 < x.2 then [(x.1, x.2 - 1)] else []).map e2 ++ (((List.range c.eds.length).take (nums (rng 0 c.eds.length)).length).filter (nPb c x)).map fun o => e2 (o, needed c x.1 x.2 o)) = (needs0 c x).map e2 := by
        rw [rng_nn, List.length_map, List.length_range, List.take_of_length_le (by rw [List.length_range]; exact Nat.le_refl _)]
        unfold needs0
        rw [List.map_append, List.map_map]
        rfl
      rw [e9]
      refine js_freeze 4 rfl (js_one (js_retF (je_sorted key2 2 64 (by decide) B.sorted (fun y _ => rfl) (fun y hy => ⟨rfl, fun z hz => ?_⟩) (Nat.lt_of_le_of_lt (needs0_len hg x) (by decide)) (je_pl (jvp 4))) fun cc hcc => ?_))
      · have := needs0_le hg hx y hy
        have hz : z = (y.1 : Int) ∨ z = (y.2 : Int) := by simpa [key2] using hz
        omega
      · obtain ⟨l', hp, hs, rfl⟩ := hcc
        have := srt2_uniq (needs0_le hg hx) hp hs
        subst this
        rfl
end
end LW
end

section
set_option Elab.async false
set_option linter.all false
set_option maxRecDepth 100000
set_option maxHeartbeats 4000000
/-! E10: every_lean, still_to_do, next_touch, done, every_standing, subsets, deeds_at. -/
namespace LC
def openW (c : Clk) (p : Nat) (s : List Nat) : List Nat := (c.eds.zipIdx.filter fun x => decide (at_ s x.2 < x.1) && decide (p ∈ gapsOf c x.2)).map fun x => x.2
def lastD (d : List Nat) : Nat := d.getLastD 0
def ext1 (ws : List Nat) (l : List (List Nat)) : List (List Nat) := l.flatMap fun d => (ws.filter fun w => decide (d = []) || decide (lastD d < w)).map fun w => d ++ [w]
def lay (ws : List Nat) : Nat → List (List Nat)
  | 0 => [[]]
  | i + 1 => ext1 ws (lay ws i)
def lays (ws : List Nat) : Nat → List (List Nat)
  | 0 => [[]]
  | i + 1 => lays ws i ++ lay ws (i + 1)
def deedsAt (c : Clk) (p : Nat) (s : List Nat) : List (List Nat) := lays (openW c p s) (min 12 (openW c p s).length)
end LC
namespace LW
open PySem PySem.Spec L2 DL LC QL
theorem je_is2 {X : Cx} {K : PySem.W.Frag} {Γ : En} {e : Expr} {ds ds' : List D} (h : PE X e (tF K Γ (· = cl K ds))) (w : ds = ds') : PE X e (tF K Γ (· = cl K ds')) := w ▸ h
def eL (x : (Nat × Nat) × (Nat × Nat)) : D := .t [e2 x.1, e2 x.2]
section
variable {P : Program} {w : World} {K : PySem.W.Frag} {mg : Str → Option Value} {base : Heap} {f : Addr} {fd : FuncData} {c T : Addr}
abbrev sLean : Stmt := topS 32
abbrev nLean : List Str := ["clock", "exchange", "other"]
theorem scLean : FnScope nLean ["clock"] (defScope sLean) := ⟨rfl, rfl, rfl, by decide +kernel, rfl, by decide +kernel, by decide +kernel⟩
def pmLean (K : PySem.W.Frag) : Pm := ⟨Clk, fun c => [.d (eC c)], fun c => Good c, fun c r => r = .o (cl K ((leans c).map eL))⟩
theorem needsOf_len {c : Clk} (hg : Good c) (x : Nat × Nat) : (needsOf c x).length ≤ 4 := by
  unfold needsOf
  rw [(srt2_perm _).length_eq]
  exact needs0_len hg x
theorem flat_len {α β : Type} (n : Nat) (F : α → List β) : ∀ l : List α, (∀ x ∈ l, (F x).length ≤ n) → (l.flatMap F).length ≤ l.length * n
  | [], _ => Nat.zero_le _
  | x :: l, h => by
    rw [List.flatMap_cons, List.length_append, List.length_cons, Nat.succ_mul]
    have h1 := h x List.mem_cons_self
    have h2 := flat_len n F l fun y hy => h y (List.mem_cons_of_mem _ hy)
    omega
theorem ok_lean (GE : Df P w K mg base 1 "every_exchange" ["clock"] (pmExch K)) (GN : Df P w K mg base 2 "needs_of" ["clock", "exchange"] (pmNeeds K)) (F : Fun K "every_lean" "every_lean" sLean f fd) : FnOk P w K mg base CX0 3 f fd ["clock"] (spP K (pmLean K)) := by
  refine fn_ok F scLean (fun _ => rfl) (fun _ _ => by simp [pmLean]) (by decide) fun cdv A outer s H E (c : Clk) hr (hg : Good c) => ?_
  show PSs _ _ (tS K [.d (eC c), .u, .u] _)
  refine js_one (js_retF (je_lc2 (xs := exch c) (ys := fun x => needsOf c x) (enc := e2) (enc1 := fun _ => e2) (f := fun x y => eL (x, y)) (pb := fun _ _ => true) (Γe := fun x => [.d (eC c), .d (e2 x), .u]) (Γf := fun x y => [.d (eC c), .d (e2 x), .d (e2 y)]) [("exchange", 1), ("other", 2)] [2] rfl scLean.nd
    (ji_list (je_fp (jcF GE c hr (by decide) (ja_cons (jv 0) ja_nil) hg fun r h => ⟨_, h, rfl⟩))) (blkOk_by (N := nLean) (sc := defScope sLean) (by decide +kernel)) (by decide) (tg_name 1) (by decide) rfl (fun p _ => rfl) (tg_name 2) (by decide) (fun _ _ => rfl) (fun _ _ _ _ => rfl) ?_
    (fun _ _ _ _ _ => pg_name scLean.nd rfl (Or.inl rfl)) (fun x hx s H C cl fp => ji_list (je_fp (jcF GN (c, x) hr (by decide) (ja_cons (jv 0) (ja_cons (jv 1) ja_nil)) ⟨hg, hx⟩ fun r h => ⟨_, h, rfl⟩))) (fun _ _ _ _ _ => pg_name scLean.nd rfl (Or.inl rfl)) (fun _ _ _ _ _ _ _ _ _ => jts_nil) (fun x hx y hy _ s H C cl fp => je_tup (ds := [e2 x, e2 y]) (ja_cons (jv 1) (ja_cons (jv 2) ja_nil)))) fun cc hc => ?_)
  · refine Nat.le_trans (flat_len 4 _ _ fun x hx => ?_) (show (exch c).length * 4 ≤ 100000 by rw [exch_len]; have := hg.sum; omega)
    rw [List.length_map]
    exact Nat.le_trans (List.length_filter_le _ _) (needsOf_len hg x)
  · subst hc
    show Sl.o _ = Sl.o _
    congr 2
    unfold leans
    rw [List.map_flatMap]
    congr 1
    funext x
    rw [List.map_map, List.filter_eq_self.mpr (fun _ _ => rfl)]
    rfl
abbrev sToDo : Stmt := topS 38
abbrev nToDo : List Str := ["clock", "standing", "exchange"]
theorem scToDo : FnScope nToDo ["clock", "standing"] (defScope sToDo) := ⟨rfl, rfl, rfl, by decide +kernel, rfl, by decide +kernel, by decide +kernel⟩
def pmToDo (K : PySem.W.Frag) : Pm := ⟨Clk × List Nat, fun (c, s) => [.d (eC c), .d (eT s)], fun (c, s) => Good c ∧ Std c s, fun (c, s) r => r = .o (cl K ((toDo c s).map e2))⟩
theorem ok_todo (GE : Df P w K mg base 1 "every_exchange" ["clock"] (pmExch K)) (F : Fun K "still_to_do" "still_to_do" sToDo f fd) : FnOk P w K mg base CX0 2 f fd ["clock", "standing"] (spP K (pmToDo K)) := by
  refine fn_ok F scToDo (fun _ => rfl) (fun _ _ => by simp [pmToDo]) (by decide) fun cdv A outer s H E ⟨c, t⟩ hr ⟨hg, hs⟩ => ?_
  show PSs _ _ (tS K [.d (eC c), .d (eT t), .u] _)
  refine js_one (js_retF (je_lc (xs := exch c) (enc := e2) (f := e2) (pb := fun x => decide (at_ t x.1 < x.2)) (Γe := fun x => [.d (eC c), .d (eT t), .d (e2 x)]) [("exchange", 2)] rfl scToDo.nd
    (ji_list (je_fp (jcF GE c hr (by decide) (ja_cons (jv 0) ja_nil) hg fun r h => ⟨_, h, rfl⟩))) (blkOk_by (N := nToDo) (sc := defScope sToDo) (by decide +kernel)) (tg_name 2) (by decide) rfl (fun p _ => rfl) (by rw [exch_len]; have := hg.sum; omega)
    (fun _ _ _ _ _ => pg_name scToDo.nd rfl (Or.inl rfl)) (fun x hx s H C cl fp => jts_one (jt_is (jt_gt (je_ix (jv 2) je_int) (je_ix (jv 1) (je_ix (jv 2) je_int) (ix_nn (by rw [hs.len]; exact (mem_exch.mp hx).1)))) (decide_eq_decide.mpr Int.ofNat_lt))) (fun x hx hp s H C cl fp => jv 2)) fun cc hc => ?_)
  subst hc
  rfl
abbrev sNext : Stmt := topS 39
abbrev nNext : List Str := ["clock", "one", "other", "tick", "phases", "found"]
theorem scNext : FnScope nNext ["clock", "one", "other", "tick"] (defScope sNext) := ⟨rfl, rfl, rfl, by decide +kernel, rfl, by decide +kernel, by decide +kernel⟩
def pmNext : Pm := ⟨Clk × Nat × Nat × Int, fun (c, i, j, t) => [.d (eC c), .d (eN i), .d (eN j), .d (.i t)], fun (c, i, j, t) => Good c, fun (c, i, j, t) r => r = .d (if phasesOf c i j = [] then .non else .i (nextT c i j t))⟩
theorem ok_next (GP : Df P w K mg base 1 "phases_of" psPhases (pmPhases K)) (F : Fun K "next_touch" "next_touch" sNext f fd) : FnOk P w K mg base CX0 2 f fd ["clock", "one", "other", "tick"] (spP K pmNext) := by
  refine fn_ok F scNext (fun _ => rfl) (fun _ _ => by simp [pmNext]) (by decide) fun cdv A outer s H E ⟨c, v, o, t⟩ hr hg => ?_
  replace hg : Good c := hg
  show PSs _ _ (tS K [.d (eC c), .d (eN v), .d (eN o), .d (.i t), .u, .u] _)
  have hp := hg.per0
  have hb : c.tch.length ≤ 1000 := by have := hg.tn; omega
  refine js_cons (js_setF 4 scNext.nd (jcF GP (c, v, o) hr (by decide) (ja_cons (jv 0) (ja_cons (jv 1) (ja_cons (jv 2) ja_nil))) hb fun r h => ⟨_, h, rfl⟩) fun cc hc => ?_)
  subst hc
  refine js_freeze 4 rfl (js_cons (js_if (jt_not (jt_tru (je_pl (jvp 4)) truL_pl)) (fun q => ?_) (fun q => ?_)))
  · refine js_one (js_ret je_non ?_)
    show Sl.d _ = Sl.d _
    have : phasesOf c v o = [] := by
      cases h : phasesOf c v o with
      | nil => rfl
      | cons a b =>
        rw [h] at q
        cases q
    rw [if_pos this]
  · have hv : phasesOf c v o ≠ [] := fun h => by
      rw [h] at q
      cases q
    obtain ⟨x, hx⟩ := List.exists_mem_of_ne_nil _ hv
    obtain ⟨j0, hj0, ej0⟩ := ph_up hp t (phases_lt hg hx)
    refine js_nil (js_cons (js_set 5 scNext.nd (jv 3) ?_))
    refine js_cons (js_while (fun m Γ' => ∃ j, m + j = c.per ∧ j ≤ j0 ∧ Γ' = [.d (eC c), .d (eN v), .d (eN o), .d (.i t), .p (plt K (nums (nn (phasesOf c v o)))), .d (.i (t + (j : Nat)))] ∧ nextT c v o t = up (fun t => decide (ph c t ∈ phasesOf c v o)) m (t + (j : Nat))) PassesOwn.never c.per ⟨0, by omega, by omega, by simp; rfl, by simp [nextT]⟩ ?_)
    rintro m Γ' ⟨j, hm, hj, rfl, hgap⟩
    refine ⟨_, jt_niL (je_mod (by show (0 : Int) < (c.per : Int); omega) (jv 5) (je_ix (jv 0) je_int)) (je_pl (jvp 4)), fun q => ?_, fun q => ?_⟩
    · rw [mem_ph hp] at q
      have q : ¬ ph c (t + (j : Nat)) ∈ phasesOf c v o := by simpa using q
      have hlt : j < j0 := by
        rcases Nat.lt_or_ge j j0 with z | z
        · exact z
        · have : j = j0 := by omega
          subst this
          exact absurd (by rw [ej0]; exact hx) q
      refine js_one (js_augI 5 iop_add (o2_I0 (g := fun i j => i + j)) scNext.nd rfl je_int ⟨m - 1, by omega, j + 1, by omega, by omega, ?_, ?_⟩)
      · show [_, _, _, _, _, _] = [_, _, _, _, _, _]
        congr 6
        simp only [Sl.d.injEq, D.i.injEq]
        omega
      · rw [hgap]
        obtain ⟨m', rfl⟩ : ∃ m', m = m' + 1 := ⟨m - 1, by omega⟩
        show (if decide (ph c (t + (j : Nat)) ∈ phasesOf c v o) = true then _ else _) = _
        rw [if_neg (by simpa using q)]
        simp only [Nat.add_sub_cancel]
        congr 1
        omega
    · rw [mem_ph hp] at q
      have q : ph c (t + (j : Nat)) ∈ phasesOf c v o := by simpa using q
      refine js_one (js_ret (jv 5) ?_)
      show Sl.d _ = Sl.d _
      rw [if_neg hv, hgap]
      obtain ⟨m', rfl⟩ : ∃ m', m = m' + 1 := ⟨m - 1, by omega⟩
      show _ = Sl.d (.i (if decide (ph c (t + (j : Nat)) ∈ phasesOf c v o) = true then _ else _))
      rw [if_pos (by simpa using q)]
/-! ### done, every_standing, subsets -/
abbrev sDone : Stmt := topS 52
abbrev nDone : List Str := ["standing", "deed", "wheel", "edition"]
theorem scDone : FnScope nDone ["standing", "deed"] (defScope sDone) := ⟨rfl, rfl, rfl, by decide +kernel, rfl, by decide +kernel, by decide +kernel⟩
def pmDone : Pm := ⟨List Nat × List Nat, fun (s, d) => [.d (eT s), .d (eT d)], fun (s, d) => s.length ≤ 1000, fun (s, d) r => r = .d (eT (doneS s d))⟩
theorem ok_done (B : Blt mg) (F : Fun K "done" "done" sDone f fd) : FnOk P w K mg base CX0 1 f fd ["standing", "deed"] (spP K pmDone) := by
  refine fn_ok F scDone (fun _ => rfl) (fun _ _ => by simp [pmDone]) (by decide) fun cdv A outer s H E ⟨t, d⟩ hr h => ?_
  replace h : t.length ≤ 1000 := h
  show PSs _ _ (tS K [.d (eT t), .d (eT d), .u, .u] _)
  refine js_one (js_ret (je_tupleL B.tuple (je_fp (je_lc (xs := t.zipIdx) (enc := fun p => .t [eN p.2, eN p.1]) (f := fun p => eN (p.1 + if p.2 ∈ d then 1 else 0)) (pb := fun _ => true) (Γe := fun p => [.d (eT t), .d (eT d), .d (eN p.2), .d (eN p.1)]) [("wheel", 2), ("edition", 3)] rfl scDone.nd (ji_is (ji_enumT B.enum (jv 0)) (enumD_nn _)) (blkOk_by (N := nDone) (sc := defScope sDone) (by decide +kernel)) (tg_names [2, 3]) (by decide) rfl (fun p _ => rfl) (by rw [List.length_zipIdx]; omega)
    (fun _ _ _ _ _ => pg_tup rfl (pgs_cons (pg_name scDone.nd rfl (Or.inl rfl)) (pgs_cons (pg_name scDone.nd rfl (Or.inl rfl)) pgs_nil))) (fun _ _ _ _ _ _ _ => jts_nil) (fun p hp _ s H C cl fp => je_is (je_add (jv 3) (je_intB B.int (je_inT (jv 2) (jv 1)))) ?_)))) ?_)
  · show D.i _ = D.i _
    congr 1
    rw [show decide (((p.2 : Nat) : Int) ∈ nn d) = decide (p.2 ∈ d) from decide_eq_decide.mpr mem_nn]
    by_cases q : p.2 ∈ d
    · rw [decide_eq_true q, if_pos rfl, if_pos q]
      omega
    · rw [decide_eq_false q, if_neg Bool.false_ne_true, if_neg q]
      omega
  · show Sl.d _ = Sl.d _
    unfold eT doneS
    rw [nums_nn, List.map_map, List.filter_eq_self.mpr (fun _ _ => rfl)]
    rfl
abbrev sSub : Stmt := topS 55
abbrev nSub : List Str := ["deed", "found", "wheel", "one"]
theorem scSub : FnScope nSub ["deed"] (defScope sSub) := ⟨rfl, rfl, rfl, by decide +kernel, rfl, by decide +kernel, by decide +kernel⟩
def pmSub (K : PySem.W.Frag) : Pm := ⟨List Nat, fun d => [.d (eT d)], fun d => d.length ≤ 3, fun d r => r = .o (cl K ((subs d).map eT))⟩
theorem eT_app (a b : List Nat) : D.t (nums (nn a) ++ nums (nn b)) = eT (a ++ b) := by
  unfold eT
  rw [nums_nn, nums_nn, nums_nn, List.map_append]
theorem subs_take {d : List Nat} {i w : Nat} (h : d[i]? = some w) : subs (d.take (i + 1)) = subs (d.take i) ++ (subs (d.take i)).map fun o => o ++ [w] := by
  unfold subs
  rw [List.take_add_one, h, Option.toList, List.foldl_append]
  rfl
theorem subs_len (d : List Nat) : (subs d).length = 2 ^ d.length := by
  have key : ∀ (d : List Nat) (acc : List (List Nat)), (d.foldl (fun acc w => acc ++ acc.map fun o => o ++ [w]) acc).length = acc.length * 2 ^ d.length := by
    intro d
    induction d with
    | nil => intro acc; simp
    | cons w d ih =>
      intro acc
      rw [List.foldl_cons, ih, List.length_append, List.length_map, List.length_cons, Nat.pow_succ]
      rw [Nat.mul_comm (2 ^ d.length) 2, ← Nat.mul_assoc]
      congr 1
      omega
  have := key d [[]]
  simpa [subs] using this
theorem sub_mem_len {d : List Nat} : ∀ x ∈ subs d, x.length ≤ d.length := by
  have key : ∀ (d : List Nat) (acc : List (List Nat)) (n : Nat), (∀ x ∈ acc, x.length ≤ n) → ∀ x ∈ d.foldl (fun acc w => acc ++ acc.map fun o => o ++ [w]) acc, x.length ≤ n + d.length := by
    intro d
    induction d with
    | nil => intro acc n h x hx; exact h x hx
    | cons w d ih =>
      intro acc n h x hx
      rw [List.foldl_cons] at hx
      have := ih _ (n + 1) (fun y hy => by
        rcases List.mem_append.mp hy with z | z
        · have := h y z
          omega
        · obtain ⟨y', hy', rfl⟩ := List.mem_map.mp z
          have := h y' hy'
          rw [List.length_append]
          simp only [List.length_cons, List.length_nil]
          omega) x hx
      rw [List.length_cons]
      omega
  intro x hx
  have := key d [[]] 0 (fun x hx => by rw [List.mem_singleton.mp hx]; exact Nat.le_refl _) x hx
  omega
theorem ok_sub (F : Fun K "subsets" "subsets" sSub f fd) : FnOk P w K mg base CX0 1 f fd ["deed"] (spP K (pmSub K)) := by
  refine fn_ok F scSub (fun _ => rfl) (fun _ _ => by simp [pmSub]) (by decide) fun cdv A outer s H E (d : List Nat) hr (h : d.length ≤ 3) => ?_
  show PSs _ _ (tS K [.d (eT d), .u, .u, .u] _)
  refine js_cons (js_setF 1 (P := (· = cl K ((subs []).map eT))) scSub.nd (je_lst (ds := [eT []]) (ja_cons (je_tup (ds := []) ja_nil) ja_nil)) fun cc hc => ?_)
  subst hc
  refine js_cons (js_for (ds := nums (nn d)) (fun i Γ => ∃ x : Sl, Γ = [.d (eT d), .o (cl K ((subs (d.take i)).map eT)), x, .u]) PassesOwn.never rfl (ji_tup (jv 0)) (pg_name scSub.nd rfl (Or.inr rfl)) (tg_name 2) ⟨.u, rfl⟩ (fun i dd Γ' hd hI => ?_) fun Γ' hI => ?_)
  · obtain ⟨x, rfl⟩ := hI
    rw [nums_nn, List.getElem?_map] at hd
    obtain ⟨o, ho, rfl⟩ := Option.map_eq_some_iff.mp hd
    have hi := (List.getElem?_eq_some_iff.mp ho).1
    have hsl : (subs (d.take i)).length ≤ 8 := by
      rw [subs_len, List.length_take]
      exact Nat.le_trans (Nat.pow_le_pow_right (by decide) (show min i d.length ≤ 3 by omega)) (by decide)
    refine ⟨[.d (eT d), .o (cl K ((subs (d.take i)).map eT)), .d (eN o), .u], rfl, js_one (js_iaddL 1 (es' := (subs (d.take i)).map fun y => eT (y ++ [o])) scSub.nd rfl (je_ft ?_) (by rw [List.length_map, List.length_map]; omega) ⟨.d (eN o), ?_⟩)⟩
    · refine je_is2 (je_lc (xs := subs (d.take i)) (enc := eT) (f := fun y => eT (y ++ [o])) (pb := fun _ => true) (Γe := fun y => [.d (eT d), .p (plt K ((subs (d.take i)).map eT)), .d (eN o), .d (eT y)]) [("one", 3)] rfl scSub.nd (ji_list (je_pl (jvp 1))) (blkOk_by (N := nSub) (sc := defScope sSub) (by decide +kernel)) (tg_name 3) (by decide) rfl (fun p _ => rfl) (by omega)
        (fun _ _ _ _ _ => pg_name scSub.nd rfl (Or.inl rfl)) (fun _ _ _ _ _ _ _ => jts_nil) (fun y hy _ s H C cl fp => je_is (je_cat (jv 3) (je_tup (ds := nums (nn [o])) (ja_cons (jv 2) ja_nil) (by rw [nn_len]; simp)) ?_) (eT_app y [o]))) ?_
      · have := sub_mem_len y hy
        rw [nn_len, nn_len]
        rw [List.length_take] at this
        simp only [List.length_cons, List.length_nil]
        omega
      · rw [List.filter_eq_self.mpr (fun _ _ => rfl)]
    · rw [subs_take ho, List.map_append, List.map_map]
      rfl
  · obtain ⟨x, rfl⟩ := hI
    refine js_one (js_retO 1 rfl ?_)
    show Sl.o _ = Sl.o _
    rw [nn_len, List.take_length]
/-! ### every_standing -/
abbrev sSts : Stmt := topS 50
abbrev nSts : List Str := ["clock", "found", "last", "standing", "edition"]
theorem scSts : FnScope nSts ["clock"] (defScope sSts) := ⟨rfl, rfl, rfl, by decide +kernel, rfl, by decide +kernel, by decide +kernel⟩
def pmSts (K : PySem.W.Frag) : Pm := ⟨Clk, fun c => [.d (eC c)], fun c => Good c, fun c r => r = .o (cl K ((stds c.eds).map eT))⟩
theorem stds_take {d : List Nat} {i l : Nat} (h : d[i]? = some l) : stds (d.take (i + 1)) = (stds (d.take i)).flatMap fun s => (List.range (l + 1)).map fun e => s ++ [e] := by
  unfold stds
  rw [List.take_add_one, h, Option.toList, List.foldl_append]
  rfl
theorem stds_mem_len (d : List Nat) : ∀ i, i ≤ d.length → ∀ x ∈ stds (d.take i), x.length = i := by
  intro i
  induction i with
  | zero =>
    intro _ x hx
    rw [List.take_zero] at hx
    rw [List.mem_singleton.mp hx]
    rfl
  | succ i ih =>
    intro hi x hx
    rw [stds_take (List.getElem?_eq_getElem hi)] at hx
    obtain ⟨y, hy, h⟩ := List.mem_flatMap.mp hx
    obtain ⟨e, _, rfl⟩ := List.mem_map.mp h
    rw [List.length_append, ih (by omega) y hy]
    rfl
theorem stds_size {d : List Nat} (h2 : ∀ x ∈ d, x ≤ 2) : ∀ i, i ≤ d.length → (stds (d.take i)).length ≤ 3 ^ i := by
  intro i
  induction i with
  | zero => intro _; exact Nat.le_refl _
  | succ i ih =>
    intro hi
    have hl := List.getElem?_eq_getElem (show i < d.length from hi)
    have := h2 _ (List.mem_of_getElem? hl)
    rw [stds_take hl, Nat.pow_succ]
    refine Nat.le_trans (flat_len 3 _ _ fun x hx => ?_) (Nat.mul_le_mul_right 3 (ih (by omega)))
    rw [List.length_map, List.length_range]
    omega
theorem ok_sts (B : Blt mg) (F : Fun K "every_standing" "every_standing" sSts f fd) : FnOk P w K mg base CX0 1 f fd ["clock"] (spP K (pmSts K)) := by
  refine fn_ok F scSts (fun _ => rfl) (fun _ _ => by simp [pmSts]) (by decide) fun cdv A outer s H E (c : Clk) hr (hg : Good c) => ?_
  show PSs _ _ (tS K [.d (eC c), .u, .u, .u, .u] _)
  refine js_cons (js_setF 1 (P := (· = cl K ((stds []).map eT))) scSts.nd (je_lst (ds := [eT []]) (ja_cons (je_tup (ds := []) ja_nil) ja_nil)) fun cc hc => ?_)
  subst hc
  refine js_cons (js_for (ds := nums (nn c.eds)) (fun i Γ => ∃ x : Sl, Γ = [.d (eC c), .o (cl K ((stds (c.eds.take i)).map eT)), x, .u, .u]) PassesOwn.never rfl (ji_tup (je_ix (jv 0) je_int)) (pg_name scSts.nd rfl (Or.inr rfl)) (tg_name 2) ⟨.u, rfl⟩ (fun i dd Γ' hd hI => ?_) fun Γ' hI => ?_)
  · obtain ⟨x, rfl⟩ := hI
    rw [nums_nn, List.getElem?_map] at hd
    obtain ⟨l, ho, rfl⟩ := Option.map_eq_some_iff.mp hd
    have hi := (List.getElem?_eq_some_iff.mp ho).1
    have hl2 := hg.ed l (List.mem_of_getElem? ho)
    have h3 := hg.n3
    refine ⟨[.d (eC c), .o (cl K ((stds (c.eds.take i)).map eT)), .d (eN l), .u, .u], rfl, js_freeze 1 rfl (js_one (js_setLc2 1 (xs := stds (c.eds.take i)) (ys := fun _ => List.range (l + 1)) (enc := eT) (enc1 := fun _ e => eN e) (f := fun y e => eT (y ++ [e])) (pb := fun _ _ => true) (Γe := fun y => [.d (eC c), .p (plt K ((stds (c.eds.take i)).map eT)), .d (eN l), .d (eT y), .u]) (Γf := fun y e => [.d (eC c), .p (plt K ((stds (c.eds.take i)).map eT)), .d (eN l), .d (eT y), .d (eN e)]) [("standing", 3), ("edition", 4)] [4] rfl scSts.nd rfl rfl (by simp) (sw_true rfl rfl rfl (by decide +kernel))
      (ji_list (je_pl (jvp 1))) (blkOk_by (N := nSts) (sc := defScope sSts) (by decide +kernel)) (by decide) (tg_name 3) (by decide) rfl (fun p _ => rfl) (tg_name 4) (by decide) (fun _ _ => rfl) (fun _ _ _ _ => rfl) ?_
      (fun _ _ _ _ _ => pg_name scSts.nd rfl (Or.inl rfl)) (fun y hy s H C cl fp => ji_is (ji_range1 B.range (je_add (jv 2) je_int) (by omega)) (rng_nn (l + 1))) (fun _ _ _ _ _ => pg_name scSts.nd rfl (Or.inl rfl)) (fun _ _ _ _ _ _ _ _ _ => jts_nil)
      (fun y hy e he _ s H C cl fp => je_is (je_cat (jv 3) (je_tup (ds := nums (nn [e])) (ja_cons (jv 4) ja_nil) (by rw [nn_len]; simp)) ?_) (eT_app y [e])) ?_))⟩
    · refine Nat.le_trans (flat_len 3 _ _ fun x hx => ?_) (show (stds (c.eds.take i)).length * 3 ≤ 100000 from ?_)
      · rw [List.length_map]
        refine Nat.le_trans (List.length_filter_le _ _) ?_
        rw [List.length_range]
        omega
      · have := stds_size hg.ed i (by omega)
        have : 3 ^ i ≤ 3 ^ 3 := Nat.pow_le_pow_right (by decide) (by omega)
        omega
    · have := stds_mem_len c.eds i (by omega) y hy
      rw [nn_len, nn_len]
      simp only [List.length_cons, List.length_nil]
      omega
    · refine ⟨.d (eN l), ?_⟩
      rw [stds_take ho, List.map_flatMap]
      show [_, _, _, _, _] = [_, _, _, _, _]
      congr 4
      congr 1
      funext y
      rw [List.map_map, List.filter_eq_self.mpr (fun _ _ => rfl)]
      rfl
  · obtain ⟨x, rfl⟩ := hI
    refine js_one (js_retO 1 rfl ?_)
    show Sl.o _ = Sl.o _
    rw [nn_len, List.take_length]
end
end LW
end

section
set_option Elab.async false
set_option linter.all false
set_option maxRecDepth 100000
set_option maxHeartbeats 4000000
/-! E11: deeds_at. -/
namespace LW
open PySem PySem.Spec L2 DL LC QL
section
variable {P : Program} {w : World} {K : PySem.W.Frag} {mg : Str → Option Value} {base : Heap} {f : Addr} {fd : FuncData} {c T : Addr}
abbrev sDeeds : Stmt := topS 51
abbrev nDeeds : List Str := ["clock", "phase", "standing", "hands", "wheels", "found", "last", "_", "deed", "wheel"]
theorem scDeeds : FnScope nDeeds ["clock", "phase", "standing", "hands"] (defScope sDeeds) := ⟨rfl, rfl, rfl, by decide +kernel, rfl, by decide +kernel, by decide +kernel⟩
def pmDeeds (K : PySem.W.Frag) : Pm := ⟨Clk × Nat × List Nat, fun (c, p, s) => [.d (eC c), .d (eN p), .d (eT s), .d (.i 12)], fun (c, p, s) => Good c ∧ Std c s, fun (c, p, s) r => r = .o (cl K ((deedsAt c p s).map eT))⟩
theorem openW_len {c : Clk} (hg : Good c) (p : Nat) (s : List Nat) : (openW c p s).length ≤ 3 := by
  unfold openW
  rw [List.length_map]
  refine Nat.le_trans (List.length_filter_le _ _) ?_
  rw [List.length_zipIdx]
  exact hg.n3
theorem lay_size (ws : List Nat) (h : ws.length ≤ 3) : ∀ i, (lay ws i).length ≤ 3 ^ i
  | 0 => Nat.le_refl _
  | i + 1 => by
    rw [Nat.pow_succ]
    refine Nat.le_trans (flat_len 3 _ _ fun x hx => ?_) (Nat.mul_le_mul_right 3 (lay_size ws h i))
    rw [List.length_map]
    exact Nat.le_trans (List.length_filter_le _ _) h
theorem lays_size (ws : List Nat) (h : ws.length ≤ 3) : ∀ i, i ≤ 3 → (lays ws i).length ≤ 1 + i * 27
  | 0, _ => Nat.le_refl _
  | i + 1, hi => by
    show (lays ws i ++ lay ws (i + 1)).length ≤ _
    rw [List.length_append]
    have h1 := lays_size ws h i (by omega)
    have h2 := lay_size ws h (i + 1)
    have h3 : 3 ^ (i + 1) ≤ 3 ^ 3 := Nat.pow_le_pow_right (by decide) hi
    omega
theorem lay_mem_len (ws : List Nat) : ∀ i, ∀ x ∈ lay ws i, x.length = i
  | 0, x, hx => by rw [List.mem_singleton.mp hx]; rfl
  | i + 1, x, hx => by
    obtain ⟨y, hy, h⟩ := List.mem_flatMap.mp hx
    obtain ⟨e, _, rfl⟩ := List.mem_map.mp h
    rw [List.length_append, lay_mem_len ws i y hy]
    rfl
theorem last_at {d : List Nat} (h : d ≠ []) : L2.atI (nums (nn d)) (-1) = some (eN (lastD d)) := by
  have hl : 0 < d.length := List.length_pos_iff.mpr h
  unfold L2.atI
  rw [nn_len]
  rw [show ixN d.length (-1) = some (d.length - 1) from ?_]
  · rw [Option.bind_some, nums_nn, List.getElem?_map]
    unfold lastD
    rw [List.getLastD_eq_getLast?, List.getLast?_eq_getElem?, List.getElem?_eq_getElem (by omega)]
    rfl
  · unfold ixN
    rw [if_neg (by omega), if_pos (by omega)]
    congr 1
    omega
theorem ok_deeds (B : Blt mg) (F : Fun K "deeds_at" "deeds_at" sDeeds f fd) : FnOk P w K mg base CX0 1 f fd ["clock", "phase", "standing", "hands"] (spP K (pmDeeds K)) := by
  refine fn_ok F scDeeds (fun _ => rfl) (fun _ _ => by simp [pmDeeds]) (by decide) fun cdv A outer s H E ⟨c, p, t⟩ hr ⟨hg, hs⟩ => ?_
  show PSs _ _ (tS K [.d (eC c), .d (eN p), .d (eT t), .d (.i 12), .u, .u, .u, .u, .u, .u] _)
  refine js_cons (js_setF 4 (P := (· = cl K (nums (nn (openW c p t))))) scDeeds.nd (je_is2 (je_lc (xs := c.eds.zipIdx) (enc := fun x => .t [eN x.2, eN x.1]) (f := fun x => eN x.2) (pb := fun x => decide (at_ t x.2 < x.1) && decide (p ∈ gapsOf c x.2)) (Γe := fun x => [.d (eC c), .d (eN p), .d (eT t), .d (.i 12), .u, .u, .d (eN x.1), .u, .u, .d (eN x.2)]) [("wheel", 9), ("last", 6)] rfl scDeeds.nd
    (ji_is (ji_enumT B.enum (je_ix (jv 0) je_int)) (enumD_nn _)) (blkOk_by (N := nDeeds) (sc := defScope sDeeds) (by decide +kernel)) (tg_names [9, 6]) (by decide) rfl (fun x _ => rfl) (by rw [List.length_zipIdx]; have := hg.n3; omega)
    (fun _ _ _ _ _ => pg_tup rfl (pgs_cons (pg_name scDeeds.nd rfl (Or.inl rfl)) (pgs_cons (pg_name scDeeds.nd rfl (Or.inl rfl)) pgs_nil))) (fun x hx s H C cl fp => jts_one (jt_is (PW.pt (jw_and (jt_lt (je_ix (jv 2) (jv 9) (ix_nn (by rw [hs.len]; exact (mem_zipIdx_at hx).1))) (jv 6)) fun _ => jw_and1 (jt_inT (jv 1) (je_ix (je_ix (jv 0) je_int) (jv 9) (ix_gaps (by rw [hg.gn]; exact (mem_zipIdx_at hx).1)))))) ?_)) (fun x hx hp s H C cl fp => jv 9)) ?_) fun cc hc => ?_)
  · rw [show decide (((p : Nat) : Int) ∈ nn (gapsOf c x.2)) = decide (p ∈ gapsOf c x.2) from decide_eq_decide.mpr mem_nn, decide_eq_decide.mpr (Int.ofNat_lt (n := at_ t x.2) (m := x.1))]
  · rw [nums_nn]
    unfold openW
    rw [List.map_map]
    rfl
  · subst hc
    have hW := openW_len hg p t
    have emin : (if (((nums (nn (openW c p t))).length : Nat) : Int) < 12 then (((nums (nn (openW c p t))).length : Nat) : Int) else 12) = ((min 12 (openW c p t).length : Nat) : Int) := by
      rw [nn_len]
      split <;> omega
    refine js_freeze 4 rfl (js_cons (js_par (P1 := SF (· = cl K [eT []])) (P2 := SF (· = cl K [eT []])) 5 6 rfl scDeeds.nd (ju_f (je_lst (ds := [eT []]) (ja_cons (je_tup (ds := []) ja_nil) ja_nil))) (ju_f (je_lst (ds := [eT []]) (ja_cons (je_tup (ds := []) ja_nil) ja_nil))) fun s1 s2 h1 h2 => ?_))
    obtain ⟨c1, h1⟩ := h1
    obtain ⟨c2, h2⟩ := h2
    subst h1 h2
    refine js_freeze 6 rfl (js_cons (js_for (ds := nums (rng 0 ((min 12 (openW c p t).length : Nat) : Int))) (fun i Γ => ∃ x : Sl, Γ = [.d (eC c), .d (eN p), .d (eT t), .d (.i 12), .p (plt K (nums (nn (openW c p t)))), .o (cl K ((lays (openW c p t) i).map eT)), .p (plt K ((lay (openW c p t) i).map eT)), x, .u, .u]) PassesOwn.never rfl
      (ji_range1 B.range (je_is (je_min rfl B.min (jv 3) (je_lenL B.len (je_pl (jvp 4)))) (by rw [emin])) (by omega)) (pg_name scDeeds.nd rfl (Or.inl rfl)) (tg_name 7) ⟨.u, rfl⟩ (fun i d Γ' hd hI => ?_) fun Γ' hI => ?_))
    · obtain ⟨x, rfl⟩ := hI
      rw [rng_nn, List.getElem?_map] at hd
      obtain ⟨o, ho, rfl⟩ := Option.map_eq_some_iff.mp hd
      have hi : i < 3 := by
        have := (List.getElem?_eq_some_iff.mp ho).1
        rw [List.length_range] at this
        omega
      have hL := lay_size (openW c p t) hW i
      have h33 : 3 ^ i ≤ 3 ^ 3 := Nat.pow_le_pow_right (by decide) (by omega)
      refine ⟨[.d (eC c), .d (eN p), .d (eT t), .d (.i 12), .p (plt K (nums (nn (openW c p t)))), .o (cl K ((lays (openW c p t) i).map eT)), .p (plt K ((lay (openW c p t) i).map eT)), .d (eN o), .u, .u], rfl, js_cons (js_setLc2 6 (xs := lay (openW c p t) i) (ys := fun _ => openW c p t) (enc := eT) (enc1 := fun _ w => eN w) (f := fun d w => eT (d ++ [w])) (pb := fun d w => decide (d = []) || decide (lastD d < w))
        (Γe := fun d => [.d (eC c), .d (eN p), .d (eT t), .d (.i 12), .p (plt K (nums (nn (openW c p t)))), .o (cl K ((lays (openW c p t) i).map eT)), .p (plt K ((lay (openW c p t) i).map eT)), .d (eN o), .d (eT d), .u]) (Γf := fun d w => [.d (eC c), .d (eN p), .d (eT t), .d (.i 12), .p (plt K (nums (nn (openW c p t)))), .o (cl K ((lays (openW c p t) i).map eT)), .p (plt K ((lay (openW c p t) i).map eT)), .d (eN o), .d (eT d), .d (eN w)]) [("deed", 8), ("wheel", 9)] [9] rfl scDeeds.nd rfl rfl (by simp) (sw_true rfl rfl rfl (by decide +kernel))
        (ji_list (je_pl (jvp 6))) (blkOk_by (N := nDeeds) (sc := defScope sDeeds) (by decide +kernel)) (by decide) (tg_name 8) (by decide) rfl (fun _ _ => rfl) (tg_name 9) (by decide) (fun _ _ => rfl) (fun _ _ _ _ => rfl) ?_
        (fun _ _ _ _ _ => pg_name scDeeds.nd rfl (Or.inl rfl)) (fun y hy s H C cl fp => ji_is (ji_list (je_pl (jvp 4))) (nums_nn _)) (fun _ _ _ _ _ => pg_name scDeeds.nd rfl (Or.inl rfl)) (fun y hy v hv s H C cl fp => jts_one (jt_is (PW.pt (jw_or (y := decide (lastD y < v)) (jt_eqT (ns := nn y) (ms := []) hr.units (jv 8) (je_tup (ds := []) ja_nil)) fun q => jw_or1 (jt_is (jt_gt (jv 9) (je_ix (jv 8) (je_neg je_int) (last_at ?_))) ?_))) ?_))
        (fun y hy v hv _ s H C cl fp => je_is (je_cat (jv 8) (je_tup (ds := nums (nn [v])) (ja_cons (jv 9) ja_nil) (by rw [nn_len]; simp)) ?_) (eT_app y [v])) ?_)⟩
      · refine Nat.le_trans (flat_len 3 _ _ fun x hx => ?_) (show (lay (openW c p t) i).length * 3 ≤ 100000 by omega)
        rw [List.length_map]
        exact Nat.le_trans (List.length_filter_le _ _) hW
      · intro e
        rw [e] at q
        cases q
      · exact decide_eq_decide.mpr Int.ofNat_lt
      · congr 1
        refine decide_eq_decide.mpr ⟨fun e => ?_, fun e => by rw [e]; rfl⟩
        cases y with
        | nil => rfl
        | cons a b => cases e
      · have := lay_mem_len _ i y hy
        rw [nn_len, nn_len]
        simp only [List.length_cons, List.length_nil]
        omega
      · have e9 : ((lay (openW c p t) i).flatMap fun d => ((openW c p t).filter fun w => decide (d = []) || decide (lastD d < w)).map fun w => eT (d ++ [w])) = (lay (openW c p t) (i + 1)).map eT := by
          show _ = (ext1 (openW c p t) (lay (openW c p t) i)).map eT
          unfold ext1
          rw [List.map_flatMap]
          congr 1
          funext d
          rw [List.map_map]
          rfl
        rw [e9]
        refine js_freeze 6 rfl (js_one (js_iaddL 5 (es' := (lay (openW c p t) (i + 1)).map eT) scDeeds.nd rfl (jvp 6) ?_ ⟨.d (eN o), ?_⟩))
        · have h1 := lays_size (openW c p t) hW i (by omega)
          have h2 := lay_size (openW c p t) hW (i + 1)
          have h3 : 3 ^ (i + 1) ≤ 3 ^ 3 := Nat.pow_le_pow_right (by decide) (by omega)
          rw [List.length_map, List.length_map]
          omega
        · rw [← List.map_append]
          rfl
    · obtain ⟨x, rfl⟩ := hI
      refine js_one (js_retO 5 rfl ?_)
      show Sl.o _ = Sl.o _
      rw [rng_nn, List.length_map, List.length_range]
      rfl
end
end LW
end

section
set_option Elab.async false
set_option linter.all false
set_option maxRecDepth 100000
set_option maxHeartbeats 2000000
/-! D13: dicts whose keys are tuples of ints, their values ints and bools. -/
namespace DL
open PySem PySem.Spec L2
abbrev KD := List (List Int × V)
def encK (kvs : KD) : List (List Key × V) := kvs.map fun p => (p.1.map Sum.inl, p.2)
def dC (kvs : KD) : Ct := ⟨fun _ o _ => o = .dT (encK kvs), fun _ _ _ _ _ h => h, fun _ o _ h => by rw [h]; exact ⟨rfl, rfl⟩⟩
def dP (kvs : KD) : Ps := ⟨fun H v => ∃ a, v = .ref a ∧ H a = some (.dT (encK kvs)), fun _ _ _ k ⟨a, e, h⟩ => ⟨a, e, k.obj _ _ h rfl⟩⟩
theorem lend_d {kvs : KD} : Lend (dC kvs) (dP kvs) := fun a ob B B' h k ha => ⟨a, rfl, by rw [ha, show ob = _ from h]⟩
theorem inl_inj {a b : List Int} (h : a.map (Sum.inl : Int → Key) = b.map Sum.inl) : a = b := (List.map_inj_right (fun _ _ e => Sum.inl.inj e)).mp h
theorem valV_enc (k : List Int) : ∀ kvs : KD, valV (encK kvs) (k.map Sum.inl) = valV kvs k
  | [] => rfl
  | p :: r => by
    by_cases e : p.1 = k
    · rw [valV_pos e]
      exact valV_pos (p := (p.1.map Sum.inl, p.2)) (by rw [e])
    · rw [valV_neg e]
      exact (valV_neg (p := (p.1.map (Sum.inl : Int → Key), p.2)) fun z => e (inl_inj z)).trans (valV_enc k r)
theorem any_enc (k : List Int) (kvs : KD) : ((encK kvs).any fun kv => decide (kv.1 = k.map Sum.inl)) = kvs.any fun kv => decide (kv.1 = k) := by
  rw [valV_any, valV_any, valV_enc]
theorem putK_enc (k : List Int) (v : V) (kvs : KD) : putK (encK kvs) (k.map Sum.inl) v = encK (putK kvs k v) := by
  unfold putK
  rw [any_enc]
  split
  · unfold encK
    rw [List.map_map, List.map_map]
    apply List.map_congr_left
    intro p _
    show (if p.1.map (Sum.inl : Int → Key) = k.map Sum.inl then _ else _) = _
    by_cases e : p.1 = k
    · rw [if_pos (by rw [e])]
      simp only [Function.comp_apply, if_pos e]
    · rw [if_neg fun z => e (inl_inj z)]
      simp only [Function.comp_apply, if_neg e]
  · unfold encK
    rw [List.map_append]
    rfl
theorem kV_inl (ks : List Int) : (ks.map (Sum.inl : Int → Key)).map kV = ks.map V.int := by
  rw [List.map_map]
  rfl
theorem encK_len (kvs : KD) : (encK kvs).length = kvs.length := by unfold encK; rw [List.length_map]
/-- the plain value of data -/
inductive SV : V → D → Prop where
  | i (n : Int) : SV (.int n) (.i n)
  | b (x : Bool) : SV (.bl x) (.b x)
theorem SV.dn {K : PySem.W.Frag} {H : Hp} {v : V} {d : D} (h : SV v d) : Dn K H d v := by cases h <;> rfl
theorem SV.of {K : PySem.W.Frag} {H : Hp} {v u : V} {d : D} (h : SV v d) (q : Dn K H d u) : u = v := by
  cases h <;> exact q
section
variable {X : Cx} {K : PySem.W.Frag} {Γ : En} {o e a b f : Expr} {es : List Expr} {pos p p' apos cpos : Pos} {d : D} {ns : List Int} {kvs : KD} {v : V} {Ψ : Out → Prop} {x : Str}
theorem jt_isN {s : Sl} {x : Bool} (ha : PE X a (tR K Γ s)) (hx : ∀ B v, RV K B s v → decide (v = V.non) = x) {j : Nat} {p2 : Pos} : PT X (.Compare a [.Is] [.Constant .none j p2] pos) (tT K Γ x) :=
  pt_imp (pt_cmp (pc_isN ha) rfl) fun σ H Q ⟨Z, k, q⟩ => ⟨Z, k, fun v H' n r => ⟨x, by rw [hx _ v r], q H' n⟩⟩
theorem jt_notN {s : Sl} {x : Bool} (ha : PE X a (tR K Γ s)) (hx : ∀ B v, RV K B s v → decide (v = V.non) = x) {j : Nat} {p2 : Pos} : PT X (.Compare a [.IsNot] [.Constant .none j p2] pos) (tT K Γ (!x)) :=
  pt_imp (pt_cmp (pc_notN ha) rfl) fun σ H Q ⟨Z, k, q⟩ => ⟨Z, k, fun v H' n r => ⟨!x, by rw [hx _ v r], q H' n⟩⟩
theorem jt_isND (ha : PE X a (tR K Γ (.d d))) {j : Nat} {p2 : Pos} : PT X (.Compare a [.Is] [.Constant .none j p2] pos) (tT K Γ d.isNon) := jt_isN ha fun _ _ r => isNon_V r
theorem jt_notND (ha : PE X a (tR K Γ (.d d))) {j : Nat} {p2 : Pos} : PT X (.Compare a [.IsNot] [.Constant .none j p2] pos) (tT K Γ (!d.isNon)) := jt_notN ha fun _ _ r => isNon_V r
theorem je_dnew : PE X (.Dict [] [] pos) (tF K Γ (· = dC [])) := pe_imp pe_dnewT fun σ H Q ⟨Z, k, q⟩ => fun p hp => q (dC []) p _ _ rfl (Nx.new k hp) hp upd_same rfl
theorem key_at {H : Hp} {y : V} (h : Dn K H (.t (nums ns)) y) : ∃ b, y = .ref b ∧ H b = some (.tup ((ns.map (Sum.inl : Int → Key)).map kV)) := by
  obtain ⟨b, vs, e, h1, h2⟩ := h
  obtain rfl := dns_nums h2
  exact ⟨b, e, by rw [kV_inl]; exact h1⟩
/-- d[k], there -/
theorem je_dget (hu : X.A.units + 1 < cLine) (ho : PE X o (tR X.K Γ (.p (dP kvs)))) (hi : PE X e (tR X.K Γ (.d (.t (nums ns))))) (hv : valV kvs ns = some v) (hd : SV v d) (hs : NoSl e := by intro _ _; rfl) : PE X (.Subscript o e pos) (tR X.K Γ (.d d)) :=
  pe_imp (L2.pe_dget hu ho hi hs) fun σ H Q ⟨Z, k, q⟩ => ⟨Z, k, fun v1 H1 n1 ⟨a, e1, h1⟩ => ⟨Z, n1.ok, fun v2 H2 n2 r2 => by
    obtain ⟨b, e2, h2⟩ := key_at r2
    have h3 := n2.kp.obj _ _ h1 rfl
    refine ⟨a, v, e1, .inr ⟨_, ns.map Sum.inl, b, .inl (minus_some h3).1, e2, (minus_some h2).1, by rw [valV_enc, hv]⟩, q v H2 (n1.trans n2) hd.dn⟩⟩⟩
theorem jt_din (hu : X.A.units + 1 < cLine) (hi : PE X e (tR X.K Γ (.d (.t (nums ns))))) (ho : PE X o (tR X.K Γ (.p (dP kvs)))) (hm : behindInMarks .In o = false := by rfl) : PT X (.Compare e [.In] [o] pos) (tT X.K Γ (valV kvs ns).isSome) :=
  pt_imp (pt_cmp (L2.pc_din hu hi ho) hm) fun σ H Q ⟨Z, k, q⟩ => ⟨Z, k, fun v1 H1 n1 r1 => ⟨Z, n1.ok, fun v2 H2 n2 ⟨a, e1, h1⟩ => by
    obtain ⟨b, e2, h2⟩ := key_at (Dn.k r1 n2.kp.tk)
    exact ⟨a, valV kvs ns, e1, .inr ⟨_, ns.map Sum.inl, b, .inl (minus_some h1).1, e2, (minus_some h2).1, by rw [valV_enc]⟩, _, rfl, q H2 (n1.trans n2)⟩⟩⟩
/-- d.get(k, x) -/
theorem je_dgetOr {d2 : D} {v2 : V} (hu : X.A.units + 1 < cLine) (ho : PE X o (tR X.K Γ (.p (dP kvs)))) (hi : PE X e (tR X.K Γ (.d (.t (nums ns))))) (hf : PE X f (tR X.K Γ (.d d2))) (h2 : SV v2 d2) (hd : SV ((valV kvs ns).getD v2) d) (m : M2 X o "get" apos e f cpos) : PE X (.Call (.Attribute o "get" apos) [e, f] [] cpos) (tR X.K Γ (.d d)) :=
  pe_imp (L2.pe_dget2 hu ho hi hf m) fun σ H Q ⟨Z, k, q⟩ => ⟨Z, k, fun v1 H1 n1 ⟨a, e1, h1⟩ => ⟨a, e1, .inr ⟨_, .inl (minus_some h1).1⟩, Z, n1.ok, fun y H2 n2 r2 => ⟨Z, n2.ok, fun z H3 n3 r3 => by
    obtain ⟨b, e2, h4⟩ := key_at (Dn.k r2 n3.kp.tk)
    have h3 := n3.kp.obj _ _ (n2.kp.obj _ _ h1 rfl) rfl
    obtain rfl := h2.of r3
    exact ⟨valV kvs ns, .inr ⟨_, ns.map Sum.inl, b, .inl (minus_some h3).1, e2, (minus_some h4).1, by rw [valV_enc]⟩, q _ H3 ((n1.trans n2).trans n3) hd.dn⟩⟩⟩⟩
/-- d[k] = v, one of several keys and values -/
theorem js_dputU (i : Nat) {Pk : List Int → Prop} {Pv : D → Prop} (hu : X.A.units + 1 < cLine) (hv : Γ[i]? = some (.o (dC kvs))) (he : PE X e (tN X.K Γ Pv)) (hk : PE X a (tN X.K Γ fun d => ∃ ns, d = .t (nums ns) ∧ Pk ns)) (hsv : ∀ d, Pv d → ∃ v, SV v d) (hz : kvs.length < 100000)
    (h : ∀ ns d v, Pk ns → Pv d → SV v d → Ψ (.nx (Γ.set i (.o (dC (putK kvs ns v)))))) (hN : X.N[i]? = some x := by rfl) (hx : Vis X.env.scope x := by first | exact Or.inl rfl | exact Or.inr (Or.inl rfl) | exact Or.inr (Or.inr rfl)) (hd : (x == ("__debug__" : Str)) = false := by decide) (hcd : (x == ("__classdict__" : Str)) = false := by decide)
    (hs : swapsWith e (some (.Subscript (.Name x p') a p)) pos.line X.env = pure false := by rfl) : PS X (.Assign [.Subscript (.Name x p') a p] e pos) (tS X.K Γ Ψ) :=
  ps_imp (L2.ps_dput hu (pe_var hN hx hd hcd) hk he hs) fun D σ H ⟨H0, ok, h1, _, _⟩ => by
    refine ⟨noZ, ok.toOkS, fun d v H1 hp1 n1 r1 => ?_⟩
    obtain ⟨w, hw⟩ := hsv d hp1
    obtain rfl := hw.of r1
    obtain ⟨u, e1, aa, ob, e2, e3, on⟩ := n1.ok.sl i _ hv
    subst e2
    refine ⟨.ref aa, e1, noZ, n1.ok, fun d2 y H2 hp2 n2 r2 => ?_⟩
    obtain ⟨ns, ed, hns⟩ := hp2
    subst ed
    obtain ⟨b, ey, hb⟩ := key_at r2
    obtain ⟨u2, f1, a2, ob2, f2, f3, on2⟩ := n2.ok.sl i _ hv
    rw [e1] at f1
    cases f1
    cases f2
    have on2 : ob2 = .dT (encK kvs) := on2
    subst on2
    refine ⟨aa, _, rfl, DPut.t f3 (minus_some hb).1 (Nat.lt_of_lt_of_le (show (encK kvs).length < 100000 by rw [encK_len]; exact hz) (by decide)) |> fun q => ey ▸ q, ?_⟩
    rw [putK_enc]
    exact h1 _ _ _ (h ns d _ hns hp1 hw) ((ok.nx (n1.trans n2)).write hv e1 rfl)
theorem js_dput (i : Nat) (hu : X.A.units + 1 < cLine) (hv : Γ[i]? = some (.o (dC kvs))) (he : PE X e (tR X.K Γ (.d d))) (hk : PE X a (tR X.K Γ (.d (.t (nums ns))))) (hsv : SV v d) (hz : kvs.length < 100000) (h : Ψ (.nx (Γ.set i (.o (dC (putK kvs ns v)))))) (hN : X.N[i]? = some x := by rfl) (hx : Vis X.env.scope x := by first | exact Or.inl rfl | exact Or.inr (Or.inl rfl) | exact Or.inr (Or.inr rfl))
    (hd : (x == ("__debug__" : Str)) = false := by decide) (hcd : (x == ("__classdict__" : Str)) = false := by decide) (hs : swapsWith e (some (.Subscript (.Name x p') a p)) pos.line X.env = pure false := by rfl) : PS X (.Assign [.Subscript (.Name x p') a p] e pos) (tS X.K Γ Ψ) :=
  js_dputU i (Pk := (· = ns)) (Pv := (· = d)) hu hv (jn_d he) (jn_imp (jn_d hk) fun d e => ⟨ns, e, rfl⟩) (fun d' e => ⟨v, e ▸ hsv⟩) hz (fun ns' d' v' e1 e2 e3 => by
    subst e1 e2
    have : v' = v := by cases hsv <;> cases e3 <;> rfl
    rw [this]
    exact h) hN hx hd hcd hs
/-- list(d): its keys -/
theorem je_dlist (hc : X.calm = true) (hm : X.mg "list" = none) (ha : PE X e (tR X.K Γ (.p (dP kvs)))) (hg : Gl X "list" := by rfl) (he : starEach [e] X.env = (false, eval e X.env) :: starEach [] X.env := by rfl) : PE X (.Call (.Name "list" p) [e] [] pos) (tF X.K Γ (· = cl X.K (kvs.map fun q => .t (nums q.1)))) :=
  je_callTyF (call_list_dT hc) (fun B H vs Q kb tk h q => by
    obtain ⟨v, r, e, ⟨a, e1, h1⟩, h3⟩ := h
    have h3 : r = [] := h3
    subst h3
    subst e1
    refine ⟨a, _, e, .inl (kb.obj _ _ h1 rfl), fun p bs hp ks => q _ p _ _ rfl (Keep.new hp) hp upd_same ⟨_, rfl, ?_⟩⟩
    have key : ∀ (kvs : KD) (bs : List Addr), IsKeys H (encK kvs) bs → Dns X.K (upd H p (.lst (bs.map V.ref))) (kvs.map fun q => .t (nums q.1)) (bs.map V.ref) → True := fun _ _ _ _ => trivial
    have go : ∀ (H' : Hp) (kvs : KD) (bs : List Addr), TK H H' → IsKeys H (encK kvs) bs → Dns X.K H' (kvs.map fun q => .t (nums q.1)) (bs.map V.ref) := by
      intro H' kvs
      induction kvs with
      | nil =>
        intro bs _ ks
        cases ks
        rfl
      | cons q kvs ih =>
        intro bs k ks
        cases ks with
        | @cons _ b _ bs h t =>
          refine ⟨.ref b, bs.map V.ref, rfl, ⟨b, q.1.map V.int, rfl, k _ _ (by rw [← kV_inl]; exact h) rfl, nums_dns⟩, ih bs k t⟩
    exact go _ kvs bs (Keep.new hp).tk ks) hm (by decide +kernel) (ja_cons ha ja_nil he) hg (by decide) (by decide) he
end
end DL
end

section
set_option Elab.async false
set_option linter.all false
set_option maxRecDepth 100000
set_option maxHeartbeats 4000000
/-! E12: due_ticks. -/
namespace LC
/-! tables by keys -/
section
variable {α β : Type} [DecidableEq α]
def getA (l : List (α × β)) (k : α) : Option β := (l.find? fun p => decide (p.1 = k)).map (·.2)
def putA (l : List (α × β)) (k : α) (b : β) : List (α × β) := if (l.any fun p => decide (p.1 = k)) = true then l.map (fun p => if p.1 = k then (p.1, b) else p) else l ++ [(k, b)]
theorem getA_nil {k : α} : getA ([] : List (α × β)) k = none := rfl
theorem getA_cons (p : α × β) (l : List (α × β)) (k : α) : getA (p :: l) k = if p.1 = k then some p.2 else getA l k := by
  unfold getA
  rw [List.find?_cons]
  by_cases h : p.1 = k
  · rw [if_pos h, decide_eq_true h]
    rfl
  · rw [if_neg h, decide_eq_false h]
theorem any_getA (k : α) : ∀ l : List (α × β), (l.any fun p => decide (p.1 = k)) = (getA l k).isSome
  | [] => rfl
  | p :: l => by
    rw [List.any_cons, getA_cons, any_getA k l]
    by_cases h : p.1 = k
    · rw [if_pos h, decide_eq_true h]
      rfl
    · rw [if_neg h, decide_eq_false h, Bool.false_or]
theorem getA_put (l : List (α × β)) (k j : α) (b : β) : getA (putA l k b) j = if j = k then some b else getA l j := by
  unfold putA
  by_cases a : (l.any fun p => decide (p.1 = k)) = true
  · rw [if_pos a]
    rw [any_getA] at a
    have key : ∀ l : List (α × β), getA (l.map fun p => if p.1 = k then (p.1, b) else p) j = (getA l j).map fun x => if j = k then b else x := by
      intro l
      induction l with
      | nil => rfl
      | cons p l ih =>
        rw [List.map_cons, getA_cons, getA_cons, ih]
        by_cases h : p.1 = k
        · rw [if_pos h]
          by_cases e : p.1 = j
          · rw [if_pos e, if_pos e, Option.map_some, if_pos (e.symm.trans h)]
          · rw [if_neg e, if_neg e]
        · rw [if_neg h]
          by_cases e : p.1 = j
          · rw [if_pos e, if_pos e, Option.map_some, if_neg fun z => h (e.trans z)]
          · rw [if_neg e, if_neg e]
    rw [key]
    by_cases e : j = k
    · obtain ⟨x, hx⟩ := Option.isSome_iff_exists.mp a
      rw [if_pos e, e, hx, Option.map_some, if_pos rfl]
    · rw [if_neg e]
      cases getA l j with
      | none => rfl
      | some x => rw [Option.map_some, if_neg e]
  · rw [if_neg a]
    rw [any_getA] at a
    have hn : getA l k = none := by
      cases q : getA l k with
      | none => rfl
      | some x => rw [q] at a; exact absurd rfl a
    have key : ∀ l : List (α × β), getA l k = none → getA (l ++ [(k, b)]) j = if j = k then some b else getA l j := by
      intro l
      induction l with
      | nil =>
        intro _
        rw [List.nil_append, getA_cons]
        by_cases e : k = j
        · rw [if_pos e, if_pos e.symm]
        · rw [if_neg e, if_neg fun z => e z.symm]
      | cons p l ih =>
        intro h
        rw [getA_cons] at h
        have hk : ¬ p.1 = k := fun z => by rw [if_pos z] at h; cases h
        rw [if_neg hk] at h
        rw [List.cons_append, getA_cons, getA_cons, ih h]
        by_cases e : p.1 = j
        · rw [if_pos e, if_pos e, if_neg fun z => hk (e.trans z)]
        · rw [if_neg e, if_neg e]
    exact key l hn
theorem putA_len (l : List (α × β)) (k : α) (b : β) : (putA l k b).length ≤ l.length + 1 := by
  unfold putA
  split
  · rw [List.length_map]
    omega
  · rw [List.length_append]
    exact Nat.le_refl _
/-- the keys stand once -/
def Keyed (l : List (α × β)) : Prop := (l.map (·.1)).Nodup
theorem Keyed.put {l : List (α × β)} (h : Keyed l) (k : α) (b : β) : Keyed (putA l k b) := by
  unfold putA Keyed
  split
  · rw [List.map_map]
    have e : ((fun p : α × β => p.1) ∘ fun p => if p.1 = k then (p.1, b) else p) = fun p => p.1 := by
      funext p
      simp only [Function.comp_apply]
      split <;> rfl
    rw [e]
    exact h
  · rename_i a
    rw [List.map_append, List.nodup_append]
    refine ⟨h, by simp, fun x hx y hy => ?_⟩
    have hy : y = k := by simpa using hy
    subst hy
    intro e
    subst e
    obtain ⟨p, hp, hpe⟩ := List.mem_map.mp hx
    exact a (List.any_eq_true.mpr ⟨p, hp, by simpa using hpe⟩)
theorem getA_mem {l : List (α × β)} (h : Keyed l) {k : α} {b : β} : getA l k = some b ↔ (k, b) ∈ l := by
  induction l with
  | nil => simp [getA]
  | cons p l ih =>
    have h2 : Keyed l := (List.nodup_cons.mp h).2
    have h1 : p.1 ∉ l.map (·.1) := (List.nodup_cons.mp h).1
    rw [getA_cons]
    by_cases e : p.1 = k
    · rw [if_pos e]
      constructor
      · intro z
        cases z
        rw [← e]
        exact List.mem_cons_self
      · intro z
        rcases List.mem_cons.mp z with q | q
        · rw [← q]
        · exact absurd (List.mem_map.mpr ⟨_, q, e.symm⟩) h1
    · rw [if_neg e, ih h2]
      constructor
      · exact fun z => List.mem_cons_of_mem _ z
      · intro z
        rcases List.mem_cons.mp z with q | q
        · rw [← q] at e
          exact absurd rfl e
        · exact q
end
/-- due_ticks: one turn -/
def dueOk (c : Clk) (s : List Nat) (x : Nat × Nat) (o : Nat) : Bool := decide (o ≠ x.1) && (decide (x.2 ≤ needed c o (at_ s o) x.1) && !(phasesOf c x.1 o).isEmpty)
def dueStep (c : Clk) (t : Int) (s : List Nat) (x : Nat × Nat) (acc : List ((Nat × Nat) × Int)) (o : Nat) : List ((Nat × Nat) × Int) :=
  if dueOk c s x o = true then putA acc x (if (getA acc x).getD (nextT c x.1 o t) < nextT c x.1 o t then (getA acc x).getD (nextT c x.1 o t) else nextT c x.1 o t) else acc
def dueTurn (c : Clk) (t : Int) (s : List Nat) (acc : List ((Nat × Nat) × Int)) (x : Nat × Nat) : List ((Nat × Nat) × Int) := (List.range c.eds.length).foldl (dueStep c t s x) acc
def due (c : Clk) (t : Int) (s : List Nat) : List ((Nat × Nat) × Int) := (toDo c s).foldl (dueTurn c t s) []
end LC
namespace LW
open PySem PySem.Spec L2 DL LC QL
/-- a table as a dict -/
def encA {α β : Type} (e : α → List Int) (v : β → V) (l : List (α × β)) : KD := l.map fun p => (e p.1, v p.2)
theorem encA_get {α β : Type} [DecidableEq α] {e : α → List Int} {v : β → V} (he : ∀ a b, e a = e b → a = b) (k : α) : ∀ l : List (α × β), valV (encA e v l) (e k) = (getA l k).map v
  | [] => rfl
  | p :: l => by
    rw [getA_cons]
    by_cases h : p.1 = k
    · rw [if_pos h]
      exact valV_pos (p := (e p.1, v p.2)) (by rw [h])
    · rw [if_neg h]
      exact (valV_neg (p := (e p.1, v p.2)) fun z => h (he _ _ z)).trans (encA_get he k l)
theorem encA_put {α β : Type} [DecidableEq α] {e : α → List Int} {v : β → V} (he : ∀ a b, e a = e b → a = b) (k : α) (b : β) (l : List (α × β)) : putK (encA e v l) (e k) (v b) = encA e v (putA l k b) := by
  unfold putK putA
  rw [valV_any, encA_get he, any_getA, Option.isSome_map]
  split
  · unfold encA
    rw [List.map_map, List.map_map]
    apply List.map_congr_left
    intro p _
    simp only [Function.comp_apply]
    by_cases h : p.1 = k
    · rw [if_pos (by rw [h]), if_pos h]
    · rw [if_neg fun z => h (he _ _ z), if_neg h]
  · unfold encA
    rw [List.map_append]
    rfl
theorem key2_inj (a b : Nat × Nat) (h : key2 a = key2 b) : a = b := by
  unfold key2 at h
  injection h with h1 h2
  injection h2 with h2 _
  ext <;> omega
abbrev eTk (l : List ((Nat × Nat) × Int)) : KD := encA key2 V.int l
section
variable {P : Program} {w : World} {K : PySem.W.Frag} {mg : Str → Option Value} {base : Heap} {f : Addr} {fd : FuncData} {c T : Addr}
theorem un1 {A : Around} {k : Nat} (hr : Room k A) : A.units + 1 < cLine := by have := hr.un; omega
abbrev sDue : Stmt := topS 40
abbrev nDue : List Str := ["clock", "tick", "standing", "found", "wheel", "edition", "other", "touch"]
theorem scDue : FnScope nDue ["clock", "tick", "standing"] (defScope sDue) := ⟨rfl, rfl, rfl, by decide +kernel, rfl, by decide +kernel, by decide +kernel⟩
def pmDue : Pm := ⟨Clk × Int × List Nat, fun (c, t, s) => [.d (eC c), .d (.i t), .d (eT s)], fun (c, t, s) => Good c ∧ Std c s, fun (c, t, s) r => r = .o (dC (eTk (due c t s)))⟩
theorem toDo_mem {c : Clk} {s : List Nat} {x : Nat × Nat} : x ∈ toDo c s ↔ x ∈ exch c ∧ at_ s x.1 < x.2 := by
  unfold toDo
  rw [List.mem_filter, decide_eq_true_iff]
theorem toDo_len {c : Clk} (hg : Good c) (s : List Nat) : (toDo c s).length ≤ 4 := by
  refine Nat.le_trans (List.length_filter_le _ _) ?_
  rw [exch_len]
  exact hg.sum
theorem dueStep_len (c : Clk) (t : Int) (s : List Nat) (x : Nat × Nat) (acc : List ((Nat × Nat) × Int)) (o : Nat) : (dueStep c t s x acc o).length ≤ acc.length + 1 := by
  unfold dueStep
  split
  · exact putA_len _ _ _
  · omega
theorem foldl_take {α β : Type} {F : β → α → β} {l : List α} {b : β} {i : Nat} {x : α} (h : l[i]? = some x) : (l.take (i + 1)).foldl F b = F ((l.take i).foldl F b) x := by
  rw [List.take_add_one, h, Option.toList, List.foldl_append]
  rfl
theorem due_inner_len (c : Clk) (t : Int) (s : List Nat) (x : Nat × Nat) : ∀ (l : List Nat) (acc : List ((Nat × Nat) × Int)), (l.foldl (dueStep c t s x) acc).length ≤ acc.length + l.length
  | [], acc => Nat.le_refl _
  | o :: l, acc => by
    rw [List.foldl_cons, List.length_cons]
    have h1 := due_inner_len c t s x l (dueStep c t s x acc o)
    have h2 := dueStep_len c t s x acc o
    omega
theorem due_outer_len {c : Clk} (hg : Good c) (t : Int) (s : List Nat) : ∀ (l : List (Nat × Nat)) (acc : List ((Nat × Nat) × Int)), (l.foldl (dueTurn c t s) acc).length ≤ acc.length + 3 * l.length
  | [], acc => Nat.le_refl _
  | x :: l, acc => by
    rw [List.foldl_cons, List.length_cons]
    have h1 := due_outer_len hg t s l (dueTurn c t s acc x)
    have h2 := due_inner_len c t s x (List.range c.eds.length) acc
    rw [List.length_range] at h2
    have := hg.n3
    unfold dueTurn at h1 ⊢
    omega
theorem ok_due (B : Blt mg) (GT : Df P w K mg base 2 "still_to_do" ["clock", "standing"] (pmToDo K)) (GL : Df P w K mg base 1 "least_needed" psLeast pmLeast) (GN : Df P w K mg base 2 "next_touch" ["clock", "one", "other", "tick"] pmNext) (F : Fun K "due_ticks" "due_ticks" sDue f fd) : FnOk P w K mg base CX0 3 f fd ["clock", "tick", "standing"] (spP K pmDue) := by
  refine fn_ok F scDue (fun _ => rfl) (fun _ _ => by simp [pmDue]) (by decide) fun cdv A outer s H E ⟨c, t, st⟩ hr ⟨hg, hs⟩ => ?_
  show PSs _ _ (tS K [.d (eC c), .d (.i t), .d (eT st), .u, .u, .u, .u, .u] _)
  have hb : c.bk.length ≤ 1000 := by have := hg.bn; omega
  have hn3 := hg.n3
  refine js_cons (js_setF 3 scDue.nd je_dnew fun cc hc => ?_)
  subst hc
  refine js_cons (js_for (ds := (toDo c st).map e2) (fun i Γ => ∃ a b d e : Sl, Γ = [.d (eC c), .d (.i t), .d (eT st), .o (dC (eTk (((toDo c st).take i).foldl (dueTurn c t st) []))), a, b, d, e]) PassesOwn.never rfl
    (ji_list (je_fp (jcF GT (c, st) hr (by decide) (ja_cons (jv 0) (ja_cons (jv 2) ja_nil)) ⟨hg, hs⟩ fun r h => ⟨_, h, rfl⟩))) (pg_tup rfl (pgs_cons (pg_name scDue.nd rfl (Or.inl rfl)) (pgs_cons (pg_name scDue.nd rfl (Or.inl rfl)) pgs_nil))) (tg_names [4, 5]) ⟨.u, .u, .u, .u, rfl⟩ (fun i dd Γ' hd hI => ?_) fun Γ' hI => ?_)
  · obtain ⟨a, b, d, e, rfl⟩ := hI
    rw [List.getElem?_map] at hd
    obtain ⟨x, hx, rfl⟩ := Option.map_eq_some_iff.mp hd
    have hx1 := toDo_mem.mp (List.mem_of_getElem? hx)
    have hx2 := exch_le hg hx1.1
    have hx3 := (mem_exch.mp hx1.1).1
    have hi : i < (toDo c st).length := (List.getElem?_eq_some_iff.mp hx).1
    have hi4 := toDo_len hg st
    refine ⟨[.d (eC c), .d (.i t), .d (eT st), .o (dC (eTk (((toDo c st).take i).foldl (dueTurn c t st) []))), .d (eN x.1), .d (eN x.2), d, e], rfl, ?_⟩
    have hacc := due_outer_len hg t st ((toDo c st).take i) []
    rw [List.length_take, List.length_nil] at hacc
    rw [foldl_take hx]
    generalize ((toDo c st).take i).foldl (dueTurn c t st) [] = acc at hacc ⊢
    refine js_one (js_for (ds := nums (rng 0 c.eds.length)) (fun i Γ => ∃ d e : Sl, Γ = [.d (eC c), .d (.i t), .d (eT st), .o (dC (eTk (((List.range c.eds.length).take i).foldl (dueStep c t st x) acc))), .d (eN x.1), .d (eN x.2), d, e]) PassesOwn.never rfl
      (ji_range1 B.range (je_is (je_lenT B.len (je_ix (jv 0) je_int)) (by rw [nn_len])) (by omega)) (pg_name scDue.nd rfl (Or.inl rfl)) (tg_name 6) ⟨d, e, rfl⟩ (fun j dd Γ' hd hI => ?_) fun Γ' hI => ?_)
    · obtain ⟨d, e, rfl⟩ := hI
      rw [rng_nn, List.getElem?_map] at hd
      obtain ⟨o, ho, rfl⟩ := Option.map_eq_some_iff.mp hd
      have hj : j < c.eds.length := by have := (List.getElem?_eq_some_iff.mp ho).1; rwa [List.length_range] at this
      obtain rfl : j = o := by rw [List.getElem?_range hj] at ho; exact Option.some.inj ho
      have hacc2 := due_inner_len c t st x ((List.range c.eds.length).take j) acc
      rw [List.length_take, List.length_range] at hacc2
      rw [foldl_take ho]
      generalize ((List.range c.eds.length).take j).foldl (dueStep c t st x) acc = acc2 at hacc2 ⊢
      have ij : L2.atI (nums (nn st)) ((j : Nat) : Int) = some (eN (at_ st j)) := ix_nn (by rw [hs.len]; exact hj)
      refine ⟨[.d (eC c), .d (.i t), .d (eT st), .o (dC (eTk acc2)), .d (eN x.1), .d (eN x.2), .d (eN j), e], rfl, js_one (js_if (PW.pt (jw_and (jt_neI (jv 6) (jv 4)) fun _ => jw_and1 (jt_ge (jc GL (c, j, at_ st j, x.1) hr (by decide) (ja_cons (jv 0) (ja_cons (jv 6) (ja_cons (je_ix (jv 2) (jv 6) ij) (ja_cons (jv 4) ja_nil)))) hb fun r h => h) (jv 5)))) (fun q => ?_) (fun q => ?_))⟩
      · rw [Bool.and_eq_true] at q
        have q1 : j ≠ x.1 := by
          have := q.1
          simp only [Bool.not_eq_true', decide_eq_false_iff_not] at this
          omega
        have q2 : x.2 ≤ needed c j (at_ st j) x.1 := by
          have := of_decide_eq_true q.2
          omega
        refine js_cons (js_set 7 scDue.nd (jc GN (c, x.1, j, t) hr (by decide) (ja_cons (jv 0) (ja_cons (jv 4) (ja_cons (jv 6) (ja_cons (jv 1) ja_nil)))) hg fun r h => h) ?_)
        by_cases hp : phasesOf c x.1 j = []
        · rw [if_pos hp]
          refine js_one (js_if (jt_notND (d := .non) (jv 7)) (fun z => absurd (show false = true from z) (by decide)) fun _ => js_nil ⟨.d (eN j), .d .non, ?_⟩)
          have hd0 : dueOk c st x j = false := by
            unfold dueOk
            rw [hp]
            simp
          unfold dueStep
          rw [if_neg (by rw [hd0]; decide)]
          rfl
        · rw [if_neg hp]
          have hd1 : dueOk c st x j = true := by
            unfold dueOk
            rw [decide_eq_true q1, decide_eq_true q2]
            cases h : phasesOf c x.1 j with
            | nil => exact absurd h hp
            | cons a b => rfl
          have gd : SV ((valV (eTk acc2) (key2 x)).getD (.int (nextT c x.1 j t))) (.i ((getA acc2 x).getD (nextT c x.1 j t))) := by
            rw [encA_get key2_inj]
            cases getA acc2 x with
            | none => exact .i _
            | some y => exact .i y
          refine js_one (js_if (jt_notND (d := .i (nextT c x.1 j t)) (jv 7)) (fun _ => js_one (js_dput 3 (un1 hr) rfl (je_min rfl B.min (jv 7) (je_lend 3 lend_d (je_dgetOr (ns := key2 x) (un1 hr) (jvp 3) (je_tup (ds := [eN x.1, eN x.2]) (ja_cons (jv 4) (ja_cons (jv 5) ja_nil))) (jv 7) (.i _) gd ⟨rfl, rfl, rfl, rfl⟩)))
            (je_tup (ds := nums (key2 x)) (ja_cons (jv 4) (ja_cons (jv 5) ja_nil)) (Nat.le_of_ble_eq_true rfl)) (.i _) ?_ ⟨.d (eN j), .d (.i (nextT c x.1 j t)), ?_⟩)) fun z => absurd (show true = false from z) (by decide))
          · unfold eTk encA
            rw [List.length_map]
            omega
          · unfold dueStep
            rw [if_pos hd1]
            unfold eTk
            rw [← encA_put (v := V.int) key2_inj]
            rfl
      · have hd0 : dueOk c st x j = false := by
          unfold dueOk
          rw [Bool.and_eq_false_iff] at q ⊢
          rcases q with q | q
          · left
            rw [Bool.not_eq_false', decide_eq_true_iff] at q
            rw [decide_eq_false_iff_not]
            omega
          · right
            rw [decide_eq_false_iff_not] at q
            rw [decide_eq_false (by omega)]
            rfl
        unfold dueStep
        rw [if_neg (by rw [hd0]; decide)]
        exact js_nil ⟨.d (eN j), e, rfl⟩
    · obtain ⟨d, e, rfl⟩ := hI
      refine ⟨.d (eN x.1), .d (eN x.2), d, e, ?_⟩
      rw [rng_nn, List.length_map, List.length_range, List.take_of_length_le (by rw [List.length_range]; exact Nat.le_refl _)]
      rfl
  · obtain ⟨a, b, d, e, rfl⟩ := hI
    refine js_one (js_retO 3 rfl ?_)
    show Sl.o _ = Sl.o _
    rw [List.length_map, List.take_length]
    rfl
end
end LW
end

section
set_option Elab.async false
set_option linter.all false
set_option maxRecDepth 100000
set_option maxHeartbeats 4000000
/-! E13: any(ticks[x] > limit for x, limit in limits.items()). -/
namespace LW
open PySem PySem.Spec L2 DL LC QL
section
variable {X : Cx} {Γ : En} {pins : List (Addr × Obj)} {σ : St} {H : Hp} {s : Shared} {scope : Scope} {Z : Hd}
theorem paired_at {α β : Type} {F : α → β → Prop} : ∀ {l : List α} {m : List β}, Paired F l m → ∀ {i : Nat} {a : α} {b : β}, l[i]? = some a → m[i]? = some b → F a b
  | _, _, .nil, i, a, b, h, _ => by simp at h
  | _, _, .cons r t, 0, a, b, h1, h2 => by
    cases h1
    cases h2
    exact r
  | _, _, .cons r t, i + 1, a, b, h1, h2 => paired_at t (i := i) h1 h2
/-- the captured dict of ticks -/
def tkF (X : Cx) (scope : Scope) (z : Str) (tk : List ((Nat × Nat) × Int)) (h : Heap) : Prop := ∃ (ca d : Addr) (kvs : List (List Key × Value)), (cloFrom X.env.cells scope.names []).lookup z = some ca ∧ h.IsCell ca (some (.ref d)) ∧ h.DictKeyed (tupleKind (mixKind X.prog X.w)) d kvs ∧
  ∀ k : Nat × Nat, RelO ((getA tk k).map V.int) (valueAt kvs ((key2 k).map Sum.inl))
theorem fa_tk {z : Str} {tk : List ((Nat × Nat) × Int)} : Fa (tkF X scope z tk) := ⟨fun h h' k ⟨ca, d, kvs, e1, e2, e3, e4⟩ => ⟨ca, d, kvs, e1, k.cell e2, (e3.at tupleKind_stays (fun o e => k d o e fun vs q => by
    obtain ⟨xs, ⟨o', es, ep, ho, _, hd, _⟩, _⟩ := e3
    rw [e] at ho
    cases ho
    rw [hd] at q
    cases q) fun b o vs n e q => k b o e fun us q2 => by
      rw [q] at q2
      cases q2), e4⟩⟩
theorem tk_of {z : Str} {j : Nat} {tk : List ((Nat × Nat) × Int)} (hsl : Γ[j]? = some (.p (dP (eTk tk)))) (hN : X.N[j]? = some z) (hk : X.env.kindOf z = some .cell) (hf : (z, NameKind.free) ∈ scope.names) (S : GScp X.env scope) (k : OkS X.K Z σ Γ H) (I : Inv X pins σ H s) : tkF X scope z tk s.heap := by
  obtain ⟨v, e, a, ea, ha⟩ := k.slot hsl (fun _ => by simp) (by simp)
  subst ea
  obtain ⟨m, hn, hl⟩ := I.loc
  obtain ⟨u, ru, l⟩ := hl _ _ _ hN e (vis_cell hk)
  have ru : u = .ref a := ru
  subst ru
  obtain ⟨_, _, xs, kt, dd⟩ := dt_of I.hok (minus_some ha).1
  rcases l with ⟨hk2, _⟩ | ⟨_, ca, hca, hcell⟩
  · rw [hk] at hk2
    cases hk2
  · refine ⟨ca, a, pairsH xs, NdefX.clo_has S.free hf hca, hcell, ⟨xs, dd, rfl⟩, fun q => ?_⟩
    have r := kt.val ((key2 q).map Sum.inl)
    rw [valV_enc, encA_get key2_inj] at r
    rw [valueAt_pairsH]
    exact r
theorem items_ints {P : Program} {w : World} {h : Heap} : ∀ {ns : List Int} {its : List Value}, VDs h (nums ns) its → ItemsAre (mixKind P w) (ns.map Sum.inl) its
  | [], its, e => by
    rw [show its = [] from e]
    exact .nil
  | n :: ns, its, ⟨v, r, e, ⟨t, e1⟩, q⟩ => by
    subst e e1
    exact .cons (mixKind_int P w n t) (items_ints q)
/-- ticks[x], quiet -/
theorem q_tk {q : QX} {z : Str} {tk : List ((Nat × Nat) × Int)} {F : Heap → Prop} {e : Expr} {p pos : Pos} {k : Nat × Nat} {v : Int} (ok : q.Ok) (hp : q.prog = X.prog) (hw : q.w = X.w) (hc : q.env.cells = cloFrom X.env.cells scope.names []) (hF : Fa F) (hT : ∀ h, F h → tkF X scope z tk h) (hk : q.env.kindOf z = some .free) (hu : q.A.units + 1 < cLine) (he : QE q F e (e2 k)) (hv : getA tk k = some v) (hs : NoSl e := by intro _ _; rfl) (hd : (z == ("__debug__" : Str)) = false := by decide) (hcd : (z == ("__classdict__" : Str)) = false := by decide) :
    QE q F (.Subscript (.Name z p) e pos) (.i v) := fun E s kb f => by
  obtain ⟨ca, d, kvs, e1, e2, e3, e4⟩ := hT _ f
  refine subD_of PySem.F.slot_dict_getitem.lookup hs (wpAny_Name (wpAny_loadName_free ok.kind hk (by rw [hc]; exact e1) e2 (thn (he E s kb f) fun y s1 ⟨v1, k1⟩ => ?_) hcd) hd)
  obtain ⟨t, its, rfl, pl, zz, vs⟩ := v1
  obtain ⟨o, ho, hc0, n0, hd0⟩ := pl
  have e3' : s1.heap.DictKeyed (tupleKind (mixKind X.prog X.w)) d kvs := e3.keep tupleKind_stays (Kp.k k1)
  have r := e4 k
  rw [hv] at r
  cases hval : valueAt kvs ((key2 k).map Sum.inl) with
  | none =>
    rw [hval] at r
    exact r.elim
  | some u =>
    rw [hval] at r
    obtain ⟨tt, rfl⟩ : ∃ t, u = Value.int v t := r
    rw [hp, hw]
    exact ⟨e3'.typeIs, getItem_keyed (tupleKind_room_in1 hu) (show (tupleKind (mixKind X.prog X.w)).is s1.heap ((key2 k).map Sum.inl) t from ⟨o, its.toArray, n0, ho, hc0, hd0, by simpa using items_ints vs⟩) e3' hval ⟨⟨tt, rfl⟩, Kp.trans k1 (Kp.tok s1 _)⟩⟩
end
section
variable {X : Cx} {Γ : En} {scope : Scope} {c P : Addr} {elt ea : Expr} {x y z : Str} {px py pt p pos gpos p2 pos2 : Pos} {kt k j : Nat} {tb tk : List ((Nat × Nat) × Int)}
theorem je_anyItems (hr : Room k X.A) (TB : GxR.TabB X.base X.mg c P) (hPt : P ∈ tabs X.K) (hcode : X.env.code = .ref c) (hm : X.mg "any" = none) (S0 : GScpK X.env scope) (hx : scope.names.lookup x = some .local) (hy : scope.names.lookup y = some .local) (hxy : x ≠ y) (ha : PE X ea (tR X.K Γ (.p (dP (eTk tb)))))
    (hsl : Γ[j]? = some (.p (dP (eTk tk)))) (hN : X.N[j]? = some z) (hk : X.env.kindOf z = some .cell) (hf : (z, NameKind.free) ∈ scope.names) (tr : Nat → Bool)
    (hel : ∀ (i : Nat) (q : (Nat × Nat) × Int), tb[i]? = some q → ∀ (A' : Around) (C : Addr) (code : Value), A'.handled = none → A'.depth ≤ X.A.depth + 1 → A'.units ≤ X.A.units + 8 →
      QX.Ok ⟨X.prog, X.w, A', genEnv scope (cloFrom X.env.cells scope.names []) C code builtinsNs X.env, X.base, X.K, X.mg⟩ → QE ⟨X.prog, X.w, A', genEnv scope (cloFrom X.env.cells scope.names []) C code builtinsNs X.env, X.base, X.K, X.mg⟩ (F2 C x y (e2 q.1) (.i q.2) (tkF X scope z tk)) elt (.b (tr i)))
    (hbase : attributeBase ea "items" X.env (eval ea X.env) = eval ea X.env := by rfl) (hline : (p2.endLine == pos2.line) = true := by rfl)
    (hs : ∀ v, genFold (.Call (.Attribute ea "items" p2) [] [] pos2) X.env v = pure v := by intro _; rfl) (hg : Gl X "any" := by rfl)
    (he : starEach [.GeneratorExp elt [⟨.Tuple [.Name x px, .Name y py] kt pt, .Call (.Attribute ea "items" p2) [] [] pos2, [], 0⟩] scope gpos] X.env = (false, eval (.GeneratorExp elt [⟨.Tuple [.Name x px, .Name y py] kt pt, .Call (.Attribute ea "items" p2) [] [] pos2, [], 0⟩] scope gpos) X.env) :: starEach [] X.env := by rfl) :
    PE X (.Call (.Name "any" p) [.GeneratorExp elt [⟨.Tuple [.Name x px, .Name y py] kt pt, .Call (.Attribute ea "items" p2) [] [] pos2, [], 0⟩] scope gpos] [] pos) (tR X.K Γ (.d (.b ((List.range tb.length).any tr)))) := by
  refine ⟨fun pins s σ H Q I ⟨Z, k0, q⟩ => ?_⟩
  have S := S0.g I.ok
  refine wpAny_Call_Name_kw (ld_blt I hg hm (show bootBuiltins (Str.ofString "any") = some (Value.builtin "any") by decide +kernel) ?_)
  refine PyProof.Rows.callWith_builtin1 ?_ he (by rfl)
  rw [he]
  show wpAny _ _ (spliced ((false, eval (.GeneratorExp elt [⟨.Tuple [.Name x px, .Name y py] kt pt, .Call (.Attribute ea "items" p2) [] [] pos2, [], 0⟩] scope gpos) X.env) :: backTo pos (starEach [] X.env))) _ _ s
  refine Calls.spliced_cons (gen2 (pins := pins) (σ := σ) (Gf := tkF X scope z tk) (tr := tr) (ds1 := tb.map fun q => e2 q.1) (ds2 := tb.map fun q => .i q.2) (n := tb.length) hr TB hcode S hx hy hxy hs fa_tk ?_ fun i d1 d2 hi h1 h2 => ?_)
  · refine wpAny_Call_method (T := "dict") (id := "dict.items") hbase rfl hline F.plainAttrs_dict F.slot_dict_items F.type_dict_items (thn (ha.run pins s σ H (fun v H1 => Nx X.K Z σ Γ H H1 ∧ RV X.K (minus Z σ Γ H1) (.p (dP (eTk tb))) v) I ⟨Z, k0, fun v H1 n1 r1 => ⟨n1, r1⟩⟩) fun u s1 ⟨v, H1, I1, r, n1, r1⟩ => ?_)
    obtain ⟨a, ea', had⟩ := r1
    subst ea'
    obtain rfl : u = Value.ref a := r
    have hadH := (minus_some had).1
    obtain ⟨hz, hsys, xs, kt9, dd⟩ := dt_of I1.hok hadH
    obtain ⟨es, ep, raw, hes, hen⟩ := dd.raw
    have hxl : xs.length = tb.length := by
      rw [← Paired.length kt9, encK_len]
      unfold eTk encA
      rw [List.length_map]
    obtain ⟨od, hod, hodx, hodd⟩ := id raw
    have hP1 : GxR.TabG H1 P := minus_keep.tabG (n1.ok.tb P hPt)
    have hPs : ∃ ps, s1.heap.get? P = some { cls := .none, data := .fields ps } := by
      obtain ⟨ps, e, _⟩ := hP1
      exact ⟨ps, I1.hok P _ e⟩
    refine ⟨dd.typeIs, fun b eb => ?_, ?_⟩
    · cases eb
      exact ⟨od, hod, hodx.2.1⟩
    · show wpAny _ _ (callWith pos2 (.builtin "dict.items") [.ref a] [] []) _ X.xe s1
      refine method_meetsIn F.slot_dict_items F.entry_dict_items rfl (PySem.evalArgs_none ⟨rfl, dd.typeIs, F.args_dict_items_1 _, _, meets_dict_items_raw a hsys, ⟨es, ep, raw⟩, ?_⟩)
      refine ⟨H1, s1, I1, hP1, tk_of hsl hN hk hf S n1.ok I1, fun g s5 hG => ?_, ?_⟩
      · obtain ⟨fp, wr, G, F, St, W, hst, htr, hI⟩ := hG
        refine Calls.spliced_nil ?_
        refine call_any_walkS (W.self 0 _ _ _ hst ⟨g, fp, wr, G, _, F, St, _, rfl, W, hst, htr, fun s' hmv => ?_⟩)
        obtain ⟨H2, hT, J⟩ := hI s' hmv
        exact ⟨.bl _, H2, J, rfl, q _ H2 (n1.trans (tab_nx n1.ok hPt hT)) rfl⟩
      · have hal : a < s1.heap.objs.size := Heap.lt_size hod
        have push1 : (s1.heap.push { cls := .type "dict_items", data := .fields #[.ref a] }).objs.size = s1.heap.objs.size + 1 := Heap.size_push ..
        have kp1 : HK s1.heap (s1.heap.push { cls := .type "dict_items", data := .fields #[.ref a] }) := fun b o e => Heap.get?_push_of_some _ e
        refine wpAny_pyIter_items_raw (d := a) ⟨_, Heap.get?_push_size _ rfl, rfl, rfl⟩ (raw.at fun o e => kp1 _ _ e) ?_
        refine ⟨s1.heap.objs.size + 1, [s1.heap.objs.size + 1, a], [s1.heap.objs.size + 1], (fun i vals => ∃ hi : i < es.size, vals = #[es[i].key, es[i].val]), (fun i h => (∃ ok ov, IsItemIter h (s1.heap.objs.size + 1) a i es.size ep ok ov) ∧ h.DictRaw a es ep), _, by rw [← push1], fun A' hA => by
          rw [← hxl, ← hes]
          exact (WalksT.rawItems hA (s1.heap.objs.size + 1) a (Nat.ne_of_lt (Nat.lt_succ_of_lt hal)) es ep).toU, ⟨⟨.none, .none, ?_⟩, (raw.at fun o e => kp1 _ _ e).at fun o e => Heap.get?_push_of_some _ e⟩, fun b hb => ?_, fun hb => ?_, fun b hb => ?_, fun i vs hv => ?_, ⟨_, _, rfl⟩, kp1.trans fun b o e => Heap.get?_push_of_some _ e, ?_⟩
        · rw [← push1]
          exact Heap.get?_push_size _ rfl
        · show b < ((s1.heap.push _).push _).objs.size
          rw [Heap.size_push, push1]
          rcases List.mem_cons.mp hb with e | e
          · rw [e]
            exact Nat.lt_succ_self _
          · rw [List.mem_singleton.mp e]
            exact Nat.lt_succ_of_lt (Nat.lt_succ_of_lt hal)
        · obtain ⟨ps, hps⟩ := hPs
          rcases List.mem_cons.mp hb with e | e
          · have := Heap.lt_size hps
            rw [e] at this
            exact absurd this (Nat.not_lt.mpr (Nat.le_succ _))
          · rw [List.mem_singleton.mp e, hod] at hps
            cases hps
            cases hodd
        · rw [List.mem_singleton.mp hb]
          exact Nat.le_succ _
        · obtain ⟨hi, e⟩ := hv
          obtain ⟨yy, hy1, hy2, hy3, hy4⟩ := hen i hi
          have hi2 : i < tb.length := by rw [← hxl, ← hes]; exact hi
          have hkk : (encK (eTk tb))[i]? = some ((key2 tb[i].1).map Sum.inl, V.int tb[i].2) := by
            unfold encK eTk encA
            rw [List.getElem?_map, List.getElem?_map, List.getElem?_eq_getElem hi2]
            rfl
          obtain ⟨f1, f2, f3⟩ := paired_at kt9 hkk hy1
          refine ⟨_, _, e, hi2, _, _, by rw [List.getElem?_map, List.getElem?_eq_getElem hi2]; rfl, by rw [List.getElem?_map, List.getElem?_eq_getElem hi2]; rfl, ?_, ?_⟩
          · rw [hy2]
            refine vd_of (K := X.K) I1.hok _ (.ref yy.2.1) _ ⟨_, _, rfl, f2, ?_⟩ rfl
            rw [kV_inl]
            exact nums_dns (ns := key2 tb[i].1)
          · rw [hy3]
            exact f3
        · show s1.heap.objs.size ≤ ((s1.heap.push _).push _).objs.size
          rw [Heap.size_push, push1]
          exact Nat.le_succ_of_le (Nat.le_succ _)
  · rw [List.getElem?_map] at h1 h2
    obtain ⟨q1, hq1, rfl⟩ := Option.map_eq_some_iff.mp h1
    obtain ⟨q2, hq2, rfl⟩ := Option.map_eq_some_iff.mp h2
    rw [hq1] at hq2
    cases hq2
    exact hel i q1 hq1
end
end LW
end

section
set_option Elab.async false
set_option linter.all false
set_option maxRecDepth 100000
set_option maxHeartbeats 4000000
/-! M2: earliest ticks, plain: gap_from, pushed; a solution below the line. -/
namespace LC
theorem up_ge (p : Int → Bool) : ∀ (k : Nat) (t : Int), t ≤ up p k t
  | 0, t => Int.le_refl t
  | k + 1, t => by
    unfold up
    split
    · exact Int.le_refl t
    · have := up_ge p k (t + 1)
      omega
theorem up_min (p : Int → Bool) : ∀ (k : Nat) (t u : Int), t ≤ u → p u = true → up p k t ≤ u
  | 0, t, u, h, _ => h
  | k + 1, t, u, h, hp => by
    unfold up
    split
    · exact h
    · rename_i q
      refine up_min p k (t + 1) u ?_ hp
      rcases Int.lt_or_eq_of_le h with z | z
      · omega
      · rw [z] at q
        exact absurd hp q
theorem up_le (p : Int → Bool) : ∀ (k : Nat) (t : Int), up p k t ≤ t + k
  | 0, t => by show t ≤ _; omega
  | k + 1, t => by
    unfold up
    split
    · omega
    · have := up_le p k (t + 1)
      omega
theorem dn_le (p : Int → Bool) : ∀ (k : Nat) (t : Int), dn p k t ≤ t
  | 0, t => Int.le_refl t
  | k + 1, t => by
    unfold dn
    split
    · exact Int.le_refl t
    · have := dn_le p k (t - 1)
      omega
theorem dn_max (p : Int → Bool) : ∀ (k : Nat) (t u : Int), u ≤ t → p u = true → u ≤ dn p k t
  | 0, t, u, h, _ => h
  | k + 1, t, u, h, hp => by
    unfold dn
    split
    · exact h
    · rename_i q
      refine dn_max p k (t - 1) u ?_ hp
      rcases Int.lt_or_eq_of_le h with z | z
      · omega
      · rw [z] at hp
        exact absurd hp q
theorem up_shift (p : Int → Bool) (m : Int) (h : ∀ t, p (t - m) = p t) : ∀ (k : Nat) (t : Int), up p k (t - m) = up p k t - m
  | 0, t => rfl
  | k + 1, t => by
    unfold up
    rw [h t]
    split
    · rfl
    · rw [show t - m + 1 = (t + 1) - m by omega]
      exact up_shift p m h k (t + 1)
theorem dn_shift (p : Int → Bool) (m : Int) (h : ∀ t, p (t - m) = p t) : ∀ (k : Nat) (t : Int), dn p k (t - m) = dn p k t - m
  | 0, t => rfl
  | k + 1, t => by
    unfold dn
    rw [h t]
    split
    · rfl
    · rw [show t - m - 1 = (t - 1) - m by omega]
      exact dn_shift p m h k (t - 1)
theorem ph_per (c : Clk) (t : Int) : ph c (t - (c.per : Int)) = ph c t := by
  unfold ph
  congr 1
  rw [Int.sub_emod_right]
section
variable {c : Clk} (hg : Good c)
include hg
theorem gap_ne {w : Nat} (h : w < c.eds.length) : gapsOf c w ≠ [] ∧ ∀ x ∈ gapsOf c w, x < c.per := by
  have hw : w < c.gps.length := by rw [hg.gn]; exact h
  have e : c.gps[w]? = some (gapsOf c w) := by
    unfold gapsOf
    rw [List.getD_eq_getElem?_getD, List.getElem?_eq_getElem hw]
    rfl
  have q := hg.gv _ (List.mem_of_getElem? e)
  exact ⟨q.1, q.2.1⟩
theorem gap_mem {w : Nat} (h : w < c.eds.length) (t : Int) : ph c (gapFrom c w t) ∈ gapsOf c w := by
  obtain ⟨g1, g2⟩ := gap_ne hg h
  obtain ⟨x, hx⟩ := List.exists_mem_of_ne_nil _ g1
  obtain ⟨j, hj, e⟩ := ph_up hg.per0 t (g2 x hx)
  have := up_hit (fun t => decide (ph c t ∈ gapsOf c w)) c.per t j hj (by rw [decide_eq_true_iff, e]; exact hx)
  exact of_decide_eq_true this
theorem gap_ge (w : Nat) (t : Int) : t ≤ gapFrom c w t := up_ge _ _ _
theorem gap_min {w : Nat} {t u : Int} (h : t ≤ u) (hu : ph c u ∈ gapsOf c w) : gapFrom c w t ≤ u := up_min _ _ _ _ h (decide_eq_true hu)
theorem gap_le {w : Nat} (h : w < c.eds.length) (t : Int) : gapFrom c w t ≤ t + c.per - 1 := by
  obtain ⟨g1, g2⟩ := gap_ne hg h
  obtain ⟨x, hx⟩ := List.exists_mem_of_ne_nil _ g1
  obtain ⟨j, hj, e⟩ := ph_up hg.per0 t (g2 x hx)
  have := gap_min hg (w := w) (t := t) (u := t + (j : Nat)) (by omega) (by rw [e]; exact hx)
  omega
theorem gap_mono {w : Nat} (h : w < c.eds.length) {t u : Int} (htu : t ≤ u) : gapFrom c w t ≤ gapFrom c w u :=
  gap_min hg (Int.le_trans htu (gap_ge hg w u)) (gap_mem hg h u)
theorem gap_shift (w : Nat) (t : Int) : gapFrom c w (t - c.per) = gapFrom c w t - c.per := up_shift _ _ (fun t => by rw [ph_per]) _ _
theorem phs_lt {i j p : Nat} (h : p ∈ phasesOf c i j) : p < c.per := by
  unfold phasesOf at h
  obtain ⟨t, ht, rfl⟩ := List.mem_map.mp h
  exact (hg.tv t (List.mem_filter.mp ht).1).1
theorem above_le (i j : Nat) (t : Int) : aboveT c i j t ≤ t := dn_le _ _ _
theorem above_hit {i j : Nat} (h : phasesOf c i j ≠ []) (t : Int) : ph c (aboveT c i j t - 1) ∈ phasesOf c i j := by
  obtain ⟨x, hx⟩ := List.exists_mem_of_ne_nil _ h
  obtain ⟨k, hk, e⟩ := ph_dn hg.per0 (t - 1) (phs_lt hg hx)
  have := dn_hit (fun t => decide (ph c (t - 1) ∈ phasesOf c i j)) c.per t k hk (by rw [decide_eq_true_iff, show t - (k : Nat) - 1 = t - 1 - (k : Nat) by omega, e]; exact hx)
  exact of_decide_eq_true this
theorem above_max {i j : Nat} {t u : Int} (h : u ≤ t) (hu : ph c (u - 1) ∈ phasesOf c i j) : u ≤ aboveT c i j t := dn_max _ _ _ _ h (decide_eq_true hu)
theorem above_mono {i j : Nat} (h : phasesOf c i j ≠ []) {t u : Int} (htu : t ≤ u) : aboveT c i j t ≤ aboveT c i j u :=
  above_max hg (Int.le_trans (above_le hg i j t) htu) (above_hit hg h t)
theorem above_shift (i j : Nat) (t : Int) : aboveT c i j (t - c.per) = aboveT c i j t - c.per := dn_shift _ _ (fun t => by rw [show t - (c.per : Int) - 1 = t - 1 - (c.per : Int) by omega, ph_per]) _ _
end
/-- what stands between two exchanges of a lean -/
structure Lean2 (c : Clk) (x y : Nat × Nat) : Prop where
  w : x.1 < c.eds.length
  p : x.1 ≠ y.1 → phasesOf c x.1 y.1 ≠ []
section
variable {c : Clk} (hg : Good c)
include hg
theorem pushed_mem {x y : Nat × Nat} (h : x.1 < c.eds.length) (t : Int) : ph c (pushed c x y t) ∈ gapsOf c x.1 := by
  unfold pushed
  split
  · exact gap_mem hg h _
  · exact gap_mem hg h _
theorem pushed_le {x y : Nat × Nat} (h : x.1 < c.eds.length) (t : Int) : pushed c x y t ≤ t + c.per := by
  unfold pushed
  split
  · have := gap_le hg h (t + 1)
    omega
  · have h1 := gap_le hg h (aboveT c x.1 y.1 t)
    have h2 := above_le hg x.1 y.1 t
    omega
theorem pushed_mono {x y : Nat × Nat} (h : Lean2 c x y) {t u : Int} (htu : t ≤ u) : pushed c x y t ≤ pushed c x y u := by
  unfold pushed
  split
  · exact gap_mono hg h.w (by omega)
  · rename_i q
    exact gap_mono hg h.w (above_mono hg (h.p q) htu)
theorem pushed_shift (x y : Nat × Nat) (t : Int) : pushed c x y (t - c.per) = pushed c x y t - c.per := by
  unfold pushed
  split
  · rw [show t - (c.per : Int) + 1 = t + 1 - c.per by omega, gap_shift hg]
  · rw [above_shift hg, gap_shift hg]
theorem lean2 {x y : Nat × Nat} (hx : x ∈ exch c) (hy : y ∈ needsOf c x) : Lean2 c x y := by
  refine ⟨(mem_exch.mp hx).1, fun q => ?_⟩
  have hy := (srt2_perm _).mem_iff.mp (show y ∈ srt2 (needs0 c x) from hy)
  unfold needs0 at hy
  rcases List.mem_append.mp hy with z | z
  · split at z
    · rw [List.mem_singleton.mp z] at q
      exact absurd rfl q
    · cases z
  · obtain ⟨o, ho, rfl⟩ := List.mem_map.mp z
    have h2 := (List.mem_filter.mp ho).2
    rw [Bool.and_eq_true, Bool.and_eq_true] at h2
    intro e
    have := h2.2.1
    rw [show phasesOf c x.1 o = [] from e] at this
    cases this
end
theorem toDo_mem' {c : Clk} {s : List Nat} {x : Nat × Nat} : x ∈ toDo c s ↔ x ∈ exch c ∧ at_ s x.1 < x.2 := LW.toDo_mem
/-- a course's ticks -/
structure Feas (c : Clk) (t : Int) (s : List Nat) (τ : Nat × Nat → Int) : Prop where
  ge : ∀ x ∈ toDo c s, t ≤ τ x
  gap : ∀ x ∈ toDo c s, ph c (τ x) ∈ gapsOf c x.1
  lean : ∀ x ∈ toDo c s, ∀ y ∈ needsOf c x, y ∈ toDo c s → pushed c x y (τ y) ≤ τ x
  lim : ∀ x l, getA (due c t s) x = some l → τ x ≤ l
theorem hole : ∀ (n : Nat) (W : List Int), W.length ≤ n → ∃ k : Nat, k ≤ n ∧ (k : Int) ∉ W
  | 0, W, h => ⟨0, Nat.le_refl _, by rw [List.eq_nil_of_length_eq_zero (Nat.le_zero.mp h)]; simp⟩
  | n + 1, W, h => by
    by_cases q : ((n + 1 : Nat) : Int) ∈ W
    · obtain ⟨k, hk, hn⟩ := hole n (W.erase ((n + 1 : Nat) : Int)) (by rw [List.length_erase_of_mem q]; omega)
      exact ⟨k, by omega, fun z => hn ((List.mem_erase_of_ne (by omega)).mpr z)⟩
    · exact ⟨n + 1, Nat.le_refl _, q⟩
theorem sum_le_map {α : Type} (f g : α → Nat) : ∀ l : List α, (∀ x ∈ l, f x ≤ g x) → (l.map f).sum ≤ (l.map g).sum
  | [], _ => Nat.le_refl _
  | x :: l, h => by
    rw [List.map_cons, List.map_cons, List.sum_cons, List.sum_cons]
    have h1 := h x List.mem_cons_self
    have h2 := sum_le_map f g l fun y hy => h y (List.mem_cons_of_mem _ hy)
    omega
theorem sum_lt_map {α : Type} (f g : α → Nat) : ∀ l : List α, (∀ x ∈ l, f x ≤ g x) → (∃ x ∈ l, f x < g x) → (l.map f).sum < (l.map g).sum
  | [], _, ⟨x, hx, _⟩ => by cases hx
  | x :: l, h, ⟨y, hy, hlt⟩ => by
    rw [List.map_cons, List.map_cons, List.sum_cons, List.sum_cons]
    have h1 := h x List.mem_cons_self
    rcases List.mem_cons.mp hy with e | hy
    · subst e
      have h2 := sum_le_map f g l fun y hy => h y (List.mem_cons_of_mem _ hy)
      omega
    · have h2 := sum_lt_map f g l (fun y hy => h y (List.mem_cons_of_mem _ hy)) ⟨y, hy, hlt⟩
      omega
theorem feas_bound {c : Clk} (hg : Good c) {t : Int} {s : List Nat} : ∀ (N : Nat) (τ : Nat × Nat → Int), Feas c t s τ → ((toDo c s).map fun x => (τ x - t).toNat).sum = N →
    ∃ τ', Feas c t s τ' ∧ ∀ x ∈ toDo c s, τ' x ≤ t + 2 * (c.per : Int) * (((toDo c s).length : Int) + 1) := by
  intro N
  induction N using Nat.strongRecOn with
  | _ N ih =>
  intro τ hF hN
  by_cases hb : ∀ x ∈ toDo c s, τ x ≤ t + 2 * (c.per : Int) * (((toDo c s).length : Int) + 1)
  · exact ⟨τ, hF, hb⟩
  · obtain ⟨x0, hx0, hlt⟩ : ∃ x ∈ toDo c s, t + 2 * (c.per : Int) * (((toDo c s).length : Int) + 1) < τ x := by
      apply Classical.byContradiction
      intro hn
      exact hb fun x hx => Int.not_lt.mp fun z => hn ⟨x, hx, z⟩
    have hper : (0 : Int) < c.per := by have := hg.per0; omega
    have hm : (0 : Int) < 2 * c.per := by omega
    obtain ⟨k, hk, hno⟩ := hole (toDo c s).length ((toDo c s).map fun x => (τ x - t) / (2 * (c.per : Int))) (by rw [List.length_map]; exact Nat.le_refl _)
    -- nothing in the window k
    have win : ∀ x ∈ toDo c s, τ x < t + 2 * (c.per : Int) * k ∨ t + 2 * (c.per : Int) * k + 2 * c.per ≤ τ x := fun x hx => by
      rcases Int.lt_or_le (τ x) (t + 2 * (c.per : Int) * k) with z | z
      · exact .inl z
      · right
        apply Int.not_lt.mp
        intro z2
        apply hno
        rw [List.mem_map]
        refine ⟨x, hx, ?_⟩
        have h1 := Int.ediv_mul_le (τ x - t) (Int.ne_of_gt hm)
        have h2 := Int.lt_ediv_add_one_mul_self (τ x - t) hm
        generalize (τ x - t) / (2 * (c.per : Int)) = d at h1 h2
        have e1 : (d + 1) * (2 * (c.per : Int)) = d * (2 * c.per) + 2 * c.per := by rw [Int.add_mul, Int.one_mul]
        rw [e1] at h2
        -- d = k
        rcases Int.lt_trichotomy d k with q | q | q
        · have : (d + 1) * (2 * (c.per : Int)) ≤ k * (2 * c.per) := Int.mul_le_mul_of_nonneg_right (by omega) (by omega)
          rw [e1] at this
          rw [Int.mul_comm (2 * (c.per : Int)) k] at z
          omega
        · exact q
        · have : ((k : Int) + 1) * (2 * (c.per : Int)) ≤ d * (2 * c.per) := Int.mul_le_mul_of_nonneg_right (by omega) (by omega)
          rw [Int.add_mul, Int.one_mul] at this
          rw [Int.mul_comm (2 * (c.per : Int)) k] at z2
          omega
    let L : Int := t + 2 * (c.per : Int) * k + 2 * c.per
    let τ' : Nat × Nat → Int := fun x => if L ≤ τ x then τ x - c.per else τ x
    have hL0 : t ≤ t + 2 * (c.per : Int) * k := by
      have : (0 : Int) ≤ 2 * (c.per : Int) * k := Int.mul_nonneg (by omega) (by omega)
      omega
    have le' : ∀ x, τ' x ≤ τ x := fun x => by
      show (if L ≤ τ x then τ x - c.per else τ x) ≤ τ x
      split <;> omega
    have F' : Feas c t s τ' := by
      refine ⟨fun x hx => ?_, fun x hx => ?_, fun x hx y hy hyd => ?_, fun x l hl => Int.le_trans (le' x) (hF.lim x l hl)⟩
      · show t ≤ (if L ≤ τ x then τ x - c.per else τ x)
        split
        · rename_i q
          have : t + 2 * (c.per : Int) * k + 2 * c.per ≤ τ x := q
          omega
        · exact hF.ge x hx
      · show ph c (if L ≤ τ x then τ x - c.per else τ x) ∈ _
        split
        · rw [ph_per]
          exact hF.gap x hx
        · exact hF.gap x hx
      · have l2 := lean2 hg (toDo_mem'.mp hx).1 hy
        have hp := hF.lean x hx y hy hyd
        show pushed c x y (if L ≤ τ y then τ y - c.per else τ y) ≤ (if L ≤ τ x then τ x - c.per else τ x)
        by_cases qy : L ≤ τ y
        · rw [if_pos qy, pushed_shift hg]
          split <;> omega
        · rw [if_neg qy]
          split
          · rename_i qx
            have h1 := pushed_le hg (x := x) (y := y) l2.w (τ y)
            have h2 : τ y < t + 2 * (c.per : Int) * k := (win y hyd).resolve_right qy
            have h3 : t + 2 * (c.per : Int) * k + 2 * c.per ≤ τ x := qx
            omega
          · exact hp
    refine ih _ ?_ τ' F' rfl
    rw [← hN]
    refine sum_lt_map _ _ _ (fun x hx => ?_) ⟨x0, hx0, ?_⟩
    · have := le' x
      omega
    · have hx9 : L ≤ τ x0 := by
        show t + 2 * (c.per : Int) * k + 2 * c.per ≤ τ x0
        have h1 : 2 * (c.per : Int) * ((k : Int) + 1) ≤ 2 * (c.per : Int) * (((toDo c s).length : Int) + 1) := Int.mul_le_mul_of_nonneg_left (by omega) (by omega)
        rw [Int.mul_add, Int.mul_one] at h1
        omega
      show ((if L ≤ τ x0 then τ x0 - c.per else τ x0) - t).toNat < (τ x0 - t).toNat
      rw [if_pos hx9]
      have h9 : t + 2 * (c.per : Int) * k + 2 * c.per ≤ τ x0 := hx9
      omega
end LC
end

section
set_option Elab.async false
set_option linter.all false
set_option maxRecDepth 100000
set_option maxHeartbeats 8000000
/-! E14: rest_ticks. -/
namespace LC
section
variable {α β : Type} [DecidableEq α]
theorem putA_keys {l : List (α × β)} {k : α} {b : β} {q : α × β} (h : q ∈ putA l k b) : q.1 = k ∨ ∃ q' ∈ l, q'.1 = q.1 := by
  unfold putA at h
  split at h
  · obtain ⟨p, hp, e⟩ := List.mem_map.mp h
    by_cases z : p.1 = k
    · rw [if_pos z] at e
      rw [← e]
      exact .inl z
    · rw [if_neg z] at e
      rw [← e]
      exact .inr ⟨p, hp, rfl⟩
  · rcases List.mem_append.mp h with z | z
    · exact .inr ⟨q, z, rfl⟩
    · rw [List.mem_singleton.mp z]
      exact .inl rfl
theorem putA_len_eq {l : List (α × β)} {k : α} {b : β} (h : (getA l k).isSome = true) : (putA l k b).length = l.length := by
  unfold putA
  rw [any_getA, if_pos h, List.length_map]
end
theorem due_inv (c : Clk) (t : Int) (s : List Nat) : Keyed (due c t s) ∧ ∀ q ∈ due c t s, q.1 ∈ toDo c s := by
  have step : ∀ (x : Nat × Nat), x ∈ toDo c s → ∀ (l : List Nat) (acc : List ((Nat × Nat) × Int)), (Keyed acc ∧ ∀ q ∈ acc, q.1 ∈ toDo c s) → Keyed (l.foldl (dueStep c t s x) acc) ∧ ∀ q ∈ l.foldl (dueStep c t s x) acc, q.1 ∈ toDo c s := by
    intro x hx l
    induction l with
    | nil => exact fun acc h => h
    | cons o l ih =>
      intro acc h
      rw [List.foldl_cons]
      refine ih _ ?_
      unfold dueStep
      split
      · refine ⟨h.1.put _ _, fun q hq => ?_⟩
        rcases putA_keys hq with e | ⟨q', hq', e⟩
        · rw [e]
          exact hx
        · rw [← e]
          exact h.2 q' hq'
      · exact h
  have outer : ∀ (l : List (Nat × Nat)), (∀ x ∈ l, x ∈ toDo c s) → ∀ acc : List ((Nat × Nat) × Int), (Keyed acc ∧ ∀ q ∈ acc, q.1 ∈ toDo c s) → Keyed (l.foldl (dueTurn c t s) acc) ∧ ∀ q ∈ l.foldl (dueTurn c t s) acc, q.1 ∈ toDo c s := by
    intro l
    induction l with
    | nil => exact fun _ acc h => h
    | cons x l ih =>
      intro hl acc h
      rw [List.foldl_cons]
      exact ih (fun y hy => hl y (List.mem_cons_of_mem _ hy)) _ (step x (hl x List.mem_cons_self) _ acc h)
  exact outer _ (fun _ h => h) [] ⟨List.nodup_nil, fun q hq => by cases hq⟩
def tk0 (c : Clk) (t : Int) (l : List (Nat × Nat)) : List ((Nat × Nat) × Int) := l.foldl (fun acc x => putA acc x (gapFrom c x.1 t)) []
theorem tk0_get (c : Clk) (t : Int) (l : List (Nat × Nat)) (x : Nat × Nat) : getA (tk0 c t l) x = if x ∈ l then some (gapFrom c x.1 t) else none := by
  have key : ∀ (l : List (Nat × Nat)) (acc : List ((Nat × Nat) × Int)), getA (l.foldl (fun acc x => putA acc x (gapFrom c x.1 t)) acc) x = if x ∈ l then some (gapFrom c x.1 t) else getA acc x := by
    intro l
    induction l with
    | nil => intro acc; simp
    | cons y l ih =>
      intro acc
      rw [List.foldl_cons, ih]
      by_cases h : x ∈ l
      · rw [if_pos h, if_pos (List.mem_cons_of_mem _ h)]
      · rw [if_neg h, getA_put]
        by_cases e : x = y
        · rw [if_pos e, if_pos (by rw [e]; exact List.mem_cons_self), e]
        · rw [if_neg e, if_neg fun z => (List.mem_cons.mp z).elim e h]
  have := key l []
  rw [getA_nil] at this
  exact this
theorem tk0_len (c : Clk) (t : Int) (l : List (Nat × Nat)) : (tk0 c t l).length ≤ l.length := by
  have key : ∀ (l : List (Nat × Nat)) (acc : List ((Nat × Nat) × Int)), (l.foldl (fun acc x => putA acc x (gapFrom c x.1 t)) acc).length ≤ acc.length + l.length := by
    intro l
    induction l with
    | nil => intro acc; exact Nat.le_refl _
    | cons y l ih =>
      intro acc
      rw [List.foldl_cons, List.length_cons]
      have h1 := ih (putA acc y (gapFrom c y.1 t))
      have h2 := putA_len acc y (gapFrom c y.1 t)
      omega
  have := key l []
  rw [List.length_nil] at this
  unfold tk0
  omega
def tv (tk : List ((Nat × Nat) × Int)) (x : Nat × Nat) : Int := (getA tk x).getD 0
/-- the line of rest_ticks -/
def mostT (c : Clk) (t : Int) (s : List Nat) : Int := t + 2 * (c.per : Int) * (((toDo c s).length : Int) + 1)
/-- ticks as they are raised -/
structure TkOk (c : Clk) (t : Int) (s : List Nat) (tk : List ((Nat × Nat) × Int)) : Prop where
  len : tk.length ≤ 100
  has : ∀ x ∈ toDo c s, getA tk x = some (tv tk x)
  only : ∀ x, (getA tk x).isSome = true → x ∈ toDo c s
  ge : ∀ x ∈ toDo c s, t ≤ tv tk x
  le : ∀ x ∈ toDo c s, tv tk x ≤ mostT c t s
  gap : ∀ x ∈ toDo c s, ph c (tv tk x) ∈ gapsOf c x.1
  low : ∀ τ, Feas c t s τ → ∀ x ∈ toDo c s, tv tk x ≤ τ x
def slack (c : Clk) (t : Int) (s : List Nat) (tk : List ((Nat × Nat) × Int)) : Nat := ((toDo c s).map fun x => (mostT c t s - tv tk x).toNat).sum
section
variable {c : Clk} (hg : Good c) {t : Int} {s : List Nat}
include hg
theorem most_ge : t + c.per ≤ mostT c t s := by
  have hp := hg.per0
  unfold mostT
  have h1 : 2 * (c.per : Int) * 1 ≤ 2 * (c.per : Int) * (((toDo c s).length : Int) + 1) := Int.mul_le_mul_of_nonneg_left (by omega) (by omega)
  omega
theorem tk0_ok : TkOk c t s (tk0 c t (toDo c s)) := by
  have hv : ∀ x ∈ toDo c s, tv (tk0 c t (toDo c s)) x = gapFrom c x.1 t := fun x hx => by
    unfold tv
    rw [tk0_get, if_pos hx]
    rfl
  have hw : ∀ x ∈ toDo c s, x.1 < c.eds.length := fun x hx => (mem_exch.mp (toDo_mem'.mp hx).1).1
  refine ⟨Nat.le_trans (tk0_len _ _ _) (Nat.le_trans (LW.toDo_len hg s) (by decide)), fun x hx => ?_, fun x hx => ?_, fun x hx => ?_, fun x hx => ?_, fun x hx => ?_, fun τ hF x hx => ?_⟩
  · rw [hv x hx, tk0_get, if_pos hx]
  · rw [tk0_get] at hx
    split at hx
    · assumption
    · cases hx
  · rw [hv x hx]
    exact gap_ge hg _ _
  · rw [hv x hx]
    have h1 := gap_le hg (hw x hx) t
    have h2 := most_ge hg (t := t) (s := s)
    omega
  · rw [hv x hx]
    exact gap_mem hg (hw x hx) t
  · rw [hv x hx]
    exact gap_min hg (hF.ge x hx) (hF.gap x hx)
theorem push_low {tk : List ((Nat × Nat) × Int)} (ok : TkOk c t s tk) {x y : Nat × Nat} (hx : x ∈ toDo c s) (hy : y ∈ needsOf c x) (hyd : y ∈ toDo c s) {τ : Nat × Nat → Int} (hF : Feas c t s τ) : pushed c x y (tv tk y) ≤ τ x :=
  Int.le_trans (pushed_mono hg (lean2 hg (toDo_mem'.mp hx).1 hy) (ok.low τ hF y hyd)) (hF.lean x hx y hy hyd)
/-- above the line: there is no course -/
theorem over_line {tk : List ((Nat × Nat) × Int)} (ok : TkOk c t s tk) {x y : Nat × Nat} (hx : x ∈ toDo c s) (hy : y ∈ needsOf c x) (hyd : y ∈ toDo c s) (h : mostT c t s < pushed c x y (tv tk y)) : ¬ ∃ τ, Feas c t s τ := by
  rintro ⟨τ, hF⟩
  obtain ⟨τ', hF', hb⟩ := feas_bound hg _ τ hF rfl
  have h1 := push_low hg ok hx hy hyd hF'
  have h2 := hb x hx
  unfold mostT at h
  omega
theorem tk_put {tk : List ((Nat × Nat) × Int)} (ok : TkOk c t s tk) {x y : Nat × Nat} (hx : x ∈ toDo c s) (hy : y ∈ needsOf c x) (hyd : y ∈ toDo c s) (h1 : tv tk x < pushed c x y (tv tk y)) (h2 : pushed c x y (tv tk y) ≤ mostT c t s) :
    TkOk c t s (putA tk x (pushed c x y (tv tk y))) ∧ slack c t s (putA tk x (pushed c x y (tv tk y))) < slack c t s tk := by
  have hv : ∀ z, tv (putA tk x (pushed c x y (tv tk y))) z = if z = x then pushed c x y (tv tk y) else tv tk z := fun z => by
    unfold tv
    rw [getA_put]
    split <;> rfl
  have hxs : (getA tk x).isSome = true := by rw [ok.has x hx]; rfl
  refine ⟨⟨by rw [putA_len_eq hxs]; exact ok.len, fun z hz => ?_, fun z hz => ?_, fun z hz => ?_, fun z hz => ?_, fun z hz => ?_, fun τ hF z hz => ?_⟩, ?_⟩
  · rw [hv, getA_put]
    split
    · rfl
    · exact ok.has z hz
  · rw [getA_put] at hz
    split at hz
    · rename_i e
      rw [e]
      exact hx
    · exact ok.only z hz
  · rw [hv]
    split
    · have := ok.ge x hx
      omega
    · exact ok.ge z hz
  · rw [hv]
    split
    · exact h2
    · exact ok.le z hz
  · rw [hv]
    split
    · rename_i e
      rw [e]
      exact pushed_mem hg (mem_exch.mp (toDo_mem'.mp hx).1).1 _
    · exact ok.gap z hz
  · rw [hv]
    split
    · rename_i e
      rw [e]
      exact push_low hg ok hx hy hyd hF
    · exact ok.low τ hF z hz
  · unfold slack
    refine sum_lt_map _ _ _ (fun z hz => ?_) ⟨x, hx, ?_⟩
    · rw [hv]
      split
      · rename_i e
        rw [e]
        omega
      · exact Nat.le_refl _
    · rw [hv, if_pos rfl]
      omega
end
/-- the leans between what is still to do -/
def leansT (c : Clk) (s : List Nat) : List ((Nat × Nat) × (Nat × Nat)) := (leans c).filter fun p => decide (p.1 ∈ toDo c s) && decide (p.2 ∈ toDo c s)
theorem mem_leansT {c : Clk} {s : List Nat} {p : (Nat × Nat) × (Nat × Nat)} : p ∈ leansT c s ↔ p.1 ∈ toDo c s ∧ p.2 ∈ needsOf c p.1 ∧ p.2 ∈ toDo c s := by
  unfold leansT
  rw [List.mem_filter, Bool.and_eq_true, decide_eq_true_iff, decide_eq_true_iff]
  constructor
  · rintro ⟨h1, h2, h3⟩
    unfold leans at h1
    obtain ⟨x, hx, h⟩ := List.mem_flatMap.mp h1
    obtain ⟨y, hy, rfl⟩ := List.mem_map.mp h
    exact ⟨h2, hy, h3⟩
  · rintro ⟨h1, h2, h3⟩
    refine ⟨?_, h1, h3⟩
    unfold leans
    exact List.mem_flatMap.mpr ⟨p.1, (toDo_mem'.mp h1).1, List.mem_map.mpr ⟨p.2, h2, rfl⟩⟩
/-- all leans are kept -/
def SatT (c : Clk) (s : List Nat) (tk : List ((Nat × Nat) × Int)) (i : Nat) : Prop := ∀ p ∈ (leansT c s).take i, pushed c p.1 p.2 (tv tk p.2) ≤ tv tk p.1
/-- a tick is over its limit -/
def overB (c : Clk) (t : Int) (s : List Nat) (tk : List ((Nat × Nat) × Int)) (i : Nat) : Bool := match (due c t s)[i]? with
  | some q => decide (q.2 < tv tk q.1)
  | none => false
theorem over_yes {c : Clk} {t : Int} {s : List Nat} {tk : List ((Nat × Nat) × Int)} (ok : TkOk c t s tk) (h : (List.range (due c t s).length).any (overB c t s tk) = true) : ¬ ∃ τ, Feas c t s τ := by
  rintro ⟨τ, hF⟩
  obtain ⟨i, hi, hb⟩ := List.any_eq_true.mp h
  unfold overB at hb
  cases e : (due c t s)[i]? with
  | none =>
    rw [e] at hb
    cases hb
  | some q =>
    rw [e] at hb
    have hb : q.2 < tv tk q.1 := of_decide_eq_true hb
    have hm := List.mem_of_getElem? e
    have h1 := hF.lim q.1 q.2 ((getA_mem (due_inv c t s).1).mpr hm)
    have h2 := ok.low τ hF q.1 ((due_inv c t s).2 q hm)
    omega
theorem over_no {c : Clk} {t : Int} {s : List Nat} {tk : List ((Nat × Nat) × Int)} (ok : TkOk c t s tk) (hs : SatT c s tk (leansT c s).length) (h : (List.range (due c t s).length).any (overB c t s tk) = false) : Feas c t s (tv tk) := by
  refine ⟨ok.ge, ok.gap, fun x hx y hy hyd => ?_, fun x l hl => ?_⟩
  · refine hs (x, y) ?_
    rw [List.take_length]
    exact mem_leansT.mpr ⟨hx, hy, hyd⟩
  · have hm := (getA_mem (due_inv c t s).1).mp hl
    obtain ⟨i, hi⟩ := List.getElem?_of_mem hm
    apply Int.not_lt.mp
    intro z
    rw [List.any_eq_false] at h
    refine h i (List.mem_range.mpr (List.getElem?_eq_some_iff.mp hi).1) ?_
    unfold overB
    rw [hi]
    exact decide_eq_true z
end LC
end

section
set_option Elab.async false
set_option linter.all false
set_option maxRecDepth 100000
set_option maxHeartbeats 8000000
/-! E15: rest_ticks, walked. -/
namespace LW
open PySem PySem.Spec L2 DL LC QL
/-- held: an empty tuple -/
def heldP (K : PySem.W.Frag) : Ps := ⟨fun H v => ∃ a, v = .ref a ∧ SqT K H a [], fun _ _ _ k ⟨a, e, h⟩ => ⟨a, e, k.tk.seqT h⟩⟩
section
variable {P : Program} {w : World} {K : PySem.W.Frag} {mg : Str → Option Value} {base : Heap} {f : Addr} {fd : FuncData} {c T : Addr}
theorem unt2 {A A' : Around} {k : Nat} (hr : Room k A) (hU : A'.units ≤ A.units + 8) : A'.units + 1 < cLine := by
  have := hr.un
  omega
theorem o2_held {n : Int} : Op2 K (rIn K false) (.d (.i n)) (.p (heldP K)) (.b false) := fun B H x y Q kb tk h1 h2 q => by
  obtain ⟨a, e1, h2⟩ := h2
  have h1 : x = .int n := h1
  subst h1
  exact ⟨a, [], e1, .inr (kb.tk.seqT h2), rfl, rfl, q _ H (Keep.refl H) rfl⟩
theorem je_held {X : Cx} {Γ : En} {a b : Expr} {pos : Pos} {n : Int} (ha : PE X a (tR X.K Γ (.d (.i n)))) (hb : PE X b (tR X.K Γ (.p (heldP X.K)))) (hm : behindInMarks .In b = false := by rfl) : PE X (.Compare a [.In] [b] pos) (tR X.K Γ (.d (.b false))) := je_cmp op_in_seq o2_held ha hb hm
abbrev sTks : Stmt := topS 41
abbrev nTks : List Str := ["clock", "tick", "standing", "held", "going", "ticks", "exchange", "leans", "limits", "most", "changed", "one", "other", "least"]
abbrev psTks : List Str := ["clock", "tick", "standing", "held"]
theorem scTks : FnScope nTks psTks (defScope sTks) := ⟨rfl, rfl, rfl, by decide +kernel, rfl, by decide +kernel, by decide +kernel⟩
def pmTks (K : PySem.W.Frag) : Pm := ⟨Clk × Int × List Nat, fun (c, t, s) => [.d (eC c), .d (.i t), .d (eT s), .p (heldP K)], fun (c, t, s) => Good c ∧ Std c s, fun (c, t, s) r => (r = .d .non ∧ ¬ ∃ τ, Feas c t s τ) ∨ ∃ tk, r = .o (dC (eTk tk)) ∧ (∃ τ, Feas c t s τ) ∧ ∀ x ∈ toDo c s, getA tk x = some (tv tk x)⟩
/-- a def with defaults whose code object stands at c -/
structure FunET (K : PySem.W.Frag) (x : Str) (st : Stmt) (dvs : List V) (f : Addr) (fd : FuncData) (c : Addr) : Prop where
  ex : ∃ (oc : Value) (od : Option Addr) (dV kV doc pm : Value) (an : Option Addr) (ct : Value) (osl : Array (Option Value)),
    fd = PySem.W.fnOf x x (defArgs st) (defBody st) (defScope st) dV kV doc pm an (.ref c) ct ∧ K.lookup f = some ⟨oc, od, .func fd, osl⟩ ∧ PySem.W.codeIn K (.ref c) x = true ∧ DflV K dV dvs ∧ KwdV K kV []
  kp : PySem.W.keepIn K (.ref f) = true
theorem FunET.fn {x : Str} {st : Stmt} {dvs : List V} {c : Addr} (F : FunET K x st dvs f fd c) : FunE K x st dvs f fd := ⟨let ⟨oc, od, dV, kV, doc, pm, an, ct, osl, e⟩ := F.ex; ⟨oc, od, dV, kV, doc, pm, an, .ref c, ct, osl, e⟩, F.kp⟩
theorem fn_okET {x : Str} {st : Stmt} {dvs : List V} {N ps : List Str} {k : Nat} {m : Pm} (F : FunET K x st dvs f fd c) (S : FnScope N ps (defScope st)) (hlen : ∀ i, (m.A i).length = ps.length) (hno : ∀ i c, Sl.o c ∉ m.A i) (hps : ps.length ≤ N.length)
    (hbody : ∀ (A : Around) (outer : List Env) (s : Shared) (H : Hp) (E : XK) (i : m.ix), Room k (A.deeper (PyProof.Rows.envOfC x (defScope st) s.heap.objs.size f (.ref c))) → m.G i →
      PSs (cxOf CX0 P w K mg base N x (defScope st) f (.ref c) A outer s H E).nox (defBody st) (tS K (m.A i ++ List.replicate (N.length - (m.A i).length) .u) (fun o => match o with
        | .rt _ r => m.R i r
        | .nx _ => m.R i (.d .non)
        | .ct _ => False))) : FnOk P w K mg base CX0 (k + 1) f fd ps (spP K m) := by
  obtain ⟨oc, od, dV, kV, doc, pm, an, ct, osl, rfl, lk, hcd, _⟩ := F.ex
  refine fn_of lk hcd S (fun vs H Q E ⟨i, hi, _, h, _⟩ => by rw [RVs.len h]; exact hlen i) fun A outer s H vs Q E hr ⟨i, hi, ht, h, q⟩ => ?_
  refine ⟨_, (hbody A outer s H E i hr hi).nox, H, ok_start h (by rw [hlen i]; exact hps) (hno i) ht, fun Γ' σ' H' hn k => ?_, fun Γ' σ' H' r' v hr' k rv => ?_, fun _ _ _ z => z.elim⟩
  · exact q _ _ H' hn (k.base.trans minus_keep) rfl
  · exact q _ _ H' hr' (k.base.trans minus_keep) rv
theorem leans_len {c : Clk} (hg : Good c) : (leans c).length ≤ 16 := by
  refine Nat.le_trans (flat_len 4 _ _ fun x hx => ?_) (show (exch c).length * 4 ≤ 16 by rw [exch_len]; have := hg.sum; omega)
  rw [List.length_map]
  exact needsOf_len hg x
theorem ok_tks (B : Blt mg) (GT : Df P w K mg base 2 "still_to_do" ["clock", "standing"] (pmToDo K)) (GG : Df P w K mg base 1 "gap_from" ["clock", "wheel", "tick"] pmGap) (GE : Df P w K mg base 3 "every_lean" ["clock"] (pmLean K)) (GD : Df P w K mg base 3 "due_ticks" ["clock", "tick", "standing"] pmDue) (GPu : Df P w K mg base 3 "pushed" ["clock", "exchange", "other", "tick"] pmPushed)
    {dvs : List V} (TB : GxR.TabB base mg c T) (hT : T ∈ tabs K) (F : FunET K "rest_ticks" sTks dvs f fd c) : FnOk P w K mg base CX0 4 f fd psTks (spP K (pmTks K)) := by
  refine fn_okET F scTks (fun _ => rfl) (fun _ _ => by simp [pmTks]) (by decide) fun A outer s H E ⟨c, t, st⟩ hr ⟨hg, hs⟩ => ?_
  show PSs _ _ (tS K [.d (eC c), .d (.i t), .d (eT st), .p (heldP K), .u, .u, .u, .u, .u, .u, .u, .u, .u, .u] _)
  have hu := un1 hr
  have hlT := toDo_len hg st
  have hlL := leans_len hg
  have h4 := hg.per4
  have h0 := hg.per0
  refine js_cons (js_setF 4 (P := (· = cl K ((toDo c st).map e2))) scTks.nd (jcF GT (c, st) hr (by decide) (ja_cons (jv 0) (ja_cons (jv 2) ja_nil)) ⟨hg, hs⟩ fun r h => ⟨_, h, rfl⟩) fun cc hc => ?_)
  subst hc
  refine js_freeze 4 rfl (js_cons (js_setF 5 scTks.nd je_dnew fun cc hc => ?_))
  subst hc
  refine js_cons (js_for (ds := (toDo c st).map e2) (fun i Γ => ∃ x : Sl, Γ = [.d (eC c), .d (.i t), .d (eT st), .p (heldP K), .p (plt K ((toDo c st).map e2)), .o (dC (eTk (tk0 c t ((toDo c st).take i)))), x, .u, .u, .u, .u, .u, .u, .u]) PassesOwn.never rfl (ji_list (je_pl (jvp 4))) (pg_name scTks.nd rfl (Or.inl rfl)) (tg_name 6) ⟨.u, rfl⟩ (fun i dd Γ' hd hI => ?_) fun Γ' hI => ?_)
  · obtain ⟨x6, rfl⟩ := hI
    rw [List.getElem?_map] at hd
    obtain ⟨x, hx, rfl⟩ := Option.map_eq_some_iff.mp hd
    have hxm := toDo_mem.mp (List.mem_of_getElem? hx)
    have hxw := (mem_exch.mp hxm.1).1
    have hi := (List.getElem?_eq_some_iff.mp hx).1
    have hl0 := tk0_len c t ((toDo c st).take i)
    rw [List.length_take] at hl0
    have e9 : tk0 c t ((toDo c st).take (i + 1)) = putA (tk0 c t ((toDo c st).take i)) x (gapFrom c x.1 t) := by
      unfold tk0
      exact foldl_take hx
    rw [e9]
    generalize tk0 c t ((toDo c st).take i) = acc at hl0 ⊢
    refine ⟨[.d (eC c), .d (.i t), .d (eT st), .p (heldP K), .p (plt K ((toDo c st).map e2)), .o (dC (eTk acc)), .d (e2 x), .u, .u, .u, .u, .u, .u, .u], rfl, js_one (js_dput 5 (ns := key2 x) (v := .int (gapFrom c x.1 t)) hu rfl (jc GG (c, x.1, t) hr (by decide) (ja_cons (jv 0) (ja_cons (je_ix (jv 6) je_int) (ja_cons (je_is (je_add (jv 1) (je_intB B.int (je_held (je_ix (jv 6) je_int) (jvp 3)))) ?_) ja_nil))) ⟨hg, hxw⟩ fun r h => h) (jv 6) (.i _) ?_ ⟨.d (e2 x), ?_⟩)⟩
    · show D.i _ = D.i _
      congr 1
      exact Int.add_zero t
    · unfold eTk encA
      rw [List.length_map]
      omega
    · unfold eTk
      rw [← encA_put (v := V.int) key2_inj]
      rfl
  · obtain ⟨x6, rfl⟩ := hI
    rw [List.length_map, List.take_length]
    have ok0 := tk0_ok hg (t := t) (s := st)
    generalize tk0 c t (toDo c st) = tk at ok0 ⊢
    have hin : ∀ x : Nat × Nat, (valV (eTk tk) (key2 x)).isSome = decide (x ∈ toDo c st) := fun x => by
      rw [encA_get key2_inj, Option.isSome_map]
      by_cases h : x ∈ toDo c st
      · rw [ok0.has x h, decide_eq_true h]
        rfl
      · rw [decide_eq_false h]
        cases e : getA tk x with
        | none => rfl
        | some y => exact absurd (ok0.only x (by rw [e]; rfl)) h
    refine js_cons (js_setLc 7 (xs := leans c) (enc := eL) (f := eL) (pb := fun p => decide (p.1 ∈ toDo c st) && decide (p.2 ∈ toDo c st)) (Γe := fun p => [.d (eC c), .d (.i t), .d (eT st), .p (heldP K), .p (plt K ((toDo c st).map e2)), .o (dC (eTk tk)), x6, .u, .u, .u, .u, .d (e2 p.1), .d (e2 p.2), .u]) [("one", 11), ("other", 12)] rfl scTks.nd rfl rfl (by simp)
      (sw_true rfl rfl rfl (by decide +kernel)) (ji_list (je_fp (jcF GE c hr (by decide) (ja_cons (jv 0) ja_nil) hg fun r h => ⟨_, h, rfl⟩))) (blkOk_by (N := nTks) (sc := defScope sTks) (by decide +kernel)) (tg_names [11, 12]) (by decide) rfl (fun x _ => rfl) (by omega) (fun _ _ _ _ _ => pg_tup rfl (pgs_cons (pg_name scTks.nd rfl (Or.inl rfl)) (pgs_cons (pg_name scTks.nd rfl (Or.inl rfl)) pgs_nil)))
      (fun p hp s H C cl fp => jts_one (jt_is (PW.pt (jw_and (jt_lend 5 lend_d (jt_din (ns := key2 p.1) hu (jv 11) (jvp 5))) fun _ => jw_and1 (jt_lend 5 lend_d (jt_din (ns := key2 p.2) hu (jv 12) (jvp 5))))) (by rw [hin, hin]))) (fun p hp _ s H C cl fp => je_tup (ds := [e2 p.1, e2 p.2]) (ja_cons (jv 11) (ja_cons (jv 12) ja_nil))) ?_)
    show cont _ _ _ (.nx [.d (eC c), .d (.i t), .d (eT st), .p (heldP K), .p (plt K ((toDo c st).map e2)), .o (dC (eTk tk)), x6, .o (cl K ((leansT c st).map eL)), .u, .u, .u, .u, .u, .u])
    refine js_freeze 7 rfl (js_cons (js_setF 8 (P := (· = dC (eTk (due c t st)))) scTks.nd (jcF GD (c, t, st) hr (by decide) (ja_cons (jv 0) (ja_cons (jv 1) (ja_cons (jv 2) ja_nil))) ⟨hg, hs⟩ fun r h => ⟨_, h, rfl⟩) fun cc hc => ?_))
    subst hc
    refine js_cons (js_set 9 (d := .i (mostT c t st)) scTks.nd (je_is (je_add (jv 1) (je_mul ?_ (je_mul ?_ je_int (je_ix (jv 0) je_int)) (je_add (je_lenL B.len (je_pl (jvp 4))) je_int))) ?_) ?_)
    · exact .inl (by constructor <;> omega)
    · exact .inl (by constructor <;> omega)
    · rw [List.length_map]
      rfl
    · refine js_cons (js_set 10 scTks.nd je_bl ?_)
      refine js_cons (js_while (fun m Γ' => ∃ (tk : List ((Nat × Nat) × Int)) (ch : Bool) (a b l : Sl), Γ' = [.d (eC c), .d (.i t), .d (eT st), .p (heldP K), .p (plt K ((toDo c st).map e2)), .o (dC (eTk tk)), x6, .p (plt K ((leansT c st).map eL)), .o (dC (eTk (due c t st))), .d (.i (mostT c t st)), .d (.b ch), a, b, l] ∧ TkOk c t st tk ∧ (ch = false → SatT c st tk (leansT c st).length) ∧ m = slack c t st tk + (if ch = true then 1 else 0)) PassesOwn.never _ ⟨tk, true, .u, .u, .u, rfl, ok0, (fun z => nomatch z), rfl⟩ ?_)
      rintro m Γ' ⟨tk, ch, a, b, l, rfl, ok1, hsat, rfl⟩
      refine ⟨ch, jt_val (jv 10), fun hch => ?_, fun hch => ?_⟩
      · subst hch
        refine js_cons (js_set 10 scTks.nd je_bl ?_)
        refine js_one (js_for (ds := (leansT c st).map eL) (fun i Γ' => ∃ (tk' : List ((Nat × Nat) × Int)) (ch : Bool) (a b l : Sl), Γ' = [.d (eC c), .d (.i t), .d (eT st), .p (heldP K), .p (plt K ((toDo c st).map e2)), .o (dC (eTk tk')), x6, .p (plt K ((leansT c st).map eL)), .o (dC (eTk (due c t st))), .d (.i (mostT c t st)), .d (.b ch), a, b, l] ∧ TkOk c t st tk' ∧ (ch = false → SatT c st tk' i) ∧ slack c t st tk' + (if ch = true then 1 else 0) ≤ slack c t st tk) PassesOwn.never rfl
          (ji_list (je_pl (jvp 7))) (pg_tup rfl (pgs_cons (pg_name scTks.nd rfl (Or.inl rfl)) (pgs_cons (pg_name scTks.nd rfl (Or.inl rfl)) pgs_nil))) (tg_names [11, 12]) ⟨tk, false, a, b, l, rfl, ok1, (fun _ p hp => by rw [List.take_zero] at hp; cases hp), Nat.le_refl _⟩ (fun i dd Γ' hd hI => ?_) fun Γ' hI => ?_)
        · obtain ⟨tk', ch, a, b, l, rfl, ok2, hsat2, hsl⟩ := hI
          rw [List.getElem?_map] at hd
          obtain ⟨p, hp, rfl⟩ := Option.map_eq_some_iff.mp hd
          obtain ⟨hp1, hp2, hp3⟩ := mem_leansT.mp (List.mem_of_getElem? hp)
          have hlean := lean2 hg (toDo_mem.mp hp1).1 hp2
          have g1 : valV (eTk tk') (key2 p.1) = some (.int (tv tk' p.1)) := by rw [encA_get key2_inj, ok2.has _ hp1]; rfl
          have g2 : valV (eTk tk') (key2 p.2) = some (.int (tv tk' p.2)) := by rw [encA_get key2_inj, ok2.has _ hp3]; rfl
          refine ⟨[.d (eC c), .d (.i t), .d (eT st), .p (heldP K), .p (plt K ((toDo c st).map e2)), .o (dC (eTk tk')), x6, .p (plt K ((leansT c st).map eL)), .o (dC (eTk (due c t st))), .d (.i (mostT c t st)), .d (.b ch), .d (e2 p.1), .d (e2 p.2), l], rfl, ?_⟩
          refine js_cons (js_set 13 scTks.nd (jc GPu (c, p.1, p.2, tv tk' p.2) hr (by decide) (ja_cons (jv 0) (ja_cons (jv 11) (ja_cons (jv 12) (ja_cons (je_lend 5 lend_d (je_dget (ns := key2 p.2) hu (jvp 5) (jv 12) g2 (.i _))) ja_nil)))) ⟨hg, hlean.w, hlean.p⟩ fun r h => h) ?_)
          refine js_one (js_if (jt_gt (jv 13) (je_lend 5 lend_d (je_dget (ns := key2 p.1) hu (jvp 5) (jv 11) g1 (.i _)))) (fun q => ?_) (fun q => ?_))
          · have q : tv tk' p.1 < LC.pushed c p.1 p.2 (tv tk' p.2) := of_decide_eq_true q
            refine js_cons (js_dput 5 (ns := key2 p.1) (v := .int (LC.pushed c p.1 p.2 (tv tk' p.2))) hu rfl (jv 13) (jv 11) (.i _) (by unfold eTk encA; rw [List.length_map]; have := ok2.len; omega) ?_)
            refine js_cons (js_set 10 scTks.nd je_bl ?_)
            refine js_one (js_if (jt_gt (jv 13) (jv 9)) (fun q2 => ?_) (fun q2 => ?_))
            · have q2 : mostT c t st < LC.pushed c p.1 p.2 (tv tk' p.2) := of_decide_eq_true q2
              exact js_one (js_ret je_non (.inl ⟨rfl, over_line hg ok2 hp1 hp2 hp3 q2⟩))
            · have q2 : ¬ mostT c t st < LC.pushed c p.1 p.2 (tv tk' p.2) := of_decide_eq_false q2
              obtain ⟨k1, k2⟩ := tk_put hg ok2 hp1 hp2 hp3 q (Int.not_lt.mp q2)
              refine js_nil ⟨putA tk' p.1 (LC.pushed c p.1 p.2 (tv tk' p.2)), true, .d (e2 p.1), .d (e2 p.2), .d (.i (LC.pushed c p.1 p.2 (tv tk' p.2))), ?_, k1, (fun z => nomatch z), ?_⟩
              · unfold eTk
                rw [← encA_put (v := V.int) key2_inj]
                rfl
              · rw [if_pos rfl]
                omega
          · have q : ¬ tv tk' p.1 < LC.pushed c p.1 p.2 (tv tk' p.2) := of_decide_eq_false q
            refine js_nil ⟨tk', ch, .d (e2 p.1), .d (e2 p.2), .d (.i (LC.pushed c p.1 p.2 (tv tk' p.2))), rfl, ok2, fun z p' hp' => ?_, hsl⟩
            rw [List.take_add_one, hp] at hp'
            rcases List.mem_append.mp hp' with y | y
            · exact hsat2 z p' y
            · have : p' = p := by simpa using y
              rw [this]
              exact Int.not_lt.mp q
        · obtain ⟨tk', ch, a, b, l, rfl, ok2, hsat2, hsl⟩ := hI
          rw [List.length_map] at hsat2
          refine ⟨_, ?_, tk', ch, a, b, l, rfl, ok2, hsat2, rfl⟩
          rw [if_pos rfl]
          omega
      · subst hch
        have hsat := hsat rfl
        refine js_cons (js_if (jt_lend 5 lend_d (jt_lend 8 lend_d (jt_val (je_anyItems (tb := due c t st) (tk := tk) (j := 5) hr TB hT rfl B.any (gscp (defScope sTks) rfl) rfl rfl (by decide) (jvp 8) rfl rfl rfl ?hf (overB c t st tk) fun i q hq A' C code hA hD hU ok => ?hel)))) (fun q => ?_) (fun q => ?_))
        case hf => exact .tail _ (.tail _ (.tail _ (.head _)))
        case hel =>
          have hm := List.mem_of_getElem? hq
          have hk := ok1.has q.1 ((due_inv c t st).2 q hm)
          refine q_is (q_cmp (fa2 fa_tk) cmp_gt (q_tk ok rfl rfl rfl (fa2 fa_tk) (fun h hh => hh.2) rfl (unt2 hr hU) (q2_x ok rfl rfl) hk) (q2_y ok rfl rfl)) ?_
          unfold overB
          rw [hq]
        · exact js_one (js_ret je_non (.inl ⟨rfl, over_yes ok1 q⟩))
        · exact js_nil (js_one (js_retO 5 rfl (.inr ⟨tk, rfl, ⟨_, over_no ok1 hsat q⟩, ok1.has⟩)))
end
end LW
end

section
set_option Elab.async false
set_option linter.all false
set_option maxRecDepth 100000
set_option maxHeartbeats 8000000
/-! E16: rest_of, rest. -/
namespace LW
open PySem PySem.Spec L2 DL LC QL
section
variable {P : Program} {w : World} {K : PySem.W.Frag} {mg : Str → Option Value} {base : Heap} {f : Addr} {fd : FuncData} {c T : Addr}
theorem jcU {X : Cx} {Γ : En} {e : Expr} {es : List Expr} {p pos : Pos} {k j : Nat} {x : Str} {ps : List Str} {m : Pm} {PP : List Sl → Prop} {PR : Sl → Prop} (G : Df X.prog X.w X.K X.mg X.base k x ps m) (hr : Room j X.A) (hk : k ≤ j) (ha : PA X (e :: es) (tAU X.K Γ PP)) (hi : ∀ ss, PP ss → ∃ i, m.A i = ss ∧ m.G i ∧ ∀ r, m.R i r → PR r) (hnp : ∀ r, PR r → ∀ p, r ≠ .p p)
    (hg : Gl X x := by rfl) (hdb : (x == ("__debug__" : Str)) = false := by decide) (he : starEach (e :: es) X.env = (false, eval e X.env) :: starEach es X.env := by rfl) (hpl : (backTo pos (starEach es X.env)).any (·.1) = false := by rfl) :
    PE X (.Call (.Name x p) (e :: es) [] pos) (tU X.K Γ PR) := by
  obtain ⟨f, fd, F, hm, kp, b⟩ := G.ex
  exact je_callU F (hr.mono hk) hm kp b ha hi hnp hg hdb he hpl
theorem dP_notnon (kvs : KD) : ∀ (B : Hp) (v : V), RV K B (.p (dP kvs)) v → decide (v = V.non) = false := fun B v h => by
  obtain ⟨a, e, _⟩ := h
  rw [e]
  rfl
abbrev sRO : Stmt := topS 42
abbrev nRO : List Str := ["clock", "tick", "standing", "held", "ticks", "found", "wheel", "last", "at"]
theorem scRO : FnScope nRO psTks (defScope sRO) := ⟨rfl, rfl, rfl, by decide +kernel, rfl, by decide +kernel, by decide +kernel⟩
def RestR (c : Clk) (t : Int) (s : List Nat) (r : Sl) : Prop := (r = .d .non ∧ ¬ ∃ τ, Feas c t s τ) ∨ ∃ ds, r = .d (.t ds) ∧ ∃ τ, Feas c t s τ
def pmRO (K : PySem.W.Frag) : Pm := ⟨Clk × Int × List Nat, fun (c, t, s) => [.d (eC c), .d (.i t), .d (eT s), .p (heldP K)], fun (c, t, s) => Good c ∧ Std c s, fun (c, t, s) r => RestR c t s r⟩
theorem ok_ro {dvs : List V} (B : Blt mg) (GR : Df P w K mg base 4 "rest_ticks" psTks (pmTks K)) (F : FunE K "rest_of" sRO dvs f fd) : FnOk P w K mg base CX0 5 f fd psTks (spP K (pmRO K)) := by
  refine fn_okD F scRO (fun _ => rfl) (fun _ _ => by simp [pmRO]) (by decide) fun cdv A outer s H E ⟨c, t, st⟩ hr ⟨hg, hs⟩ => ?_
  show PSs _ _ (tS K [.d (eC c), .d (.i t), .d (eT st), .p (heldP K), .u, .u, .u, .u, .u] _)
  have h3 := hg.n3
  refine js_cons (js_setU 4 scRO.nd (jcU (PR := (pmTks K).R (c, t, st)) GR hr (by decide) (jau_a (ja_cons (jv 0) (ja_cons (jv 1) (ja_cons (jv 2) (ja_cons (jvp 3) ja_nil))))) (fun ss e => ⟨(c, t, st), e.symm, ⟨hg, hs⟩, fun r h => h⟩) fun r h p e => ?_) fun r h => ?_)
  · rcases h with ⟨h, _⟩ | ⟨tk, h, _⟩ <;> rw [e] at h <;> cases h
  rcases h with ⟨rfl, hno⟩ | ⟨tk, rfl, hex, hhas⟩
  · exact js_cons (js_if (jt_isND (d := .non) (jv 4)) (fun _ => js_one (js_ret je_non (.inl ⟨rfl, hno⟩))) fun z => absurd (show true = false from z) (by decide))
  · refine js_cons (js_ifN (jt_lend 4 lend_d (jt_isN (s := .p (dP (eTk tk))) (x := false) (jvp 4) (dP_notnon _))) ?_)
    refine js_cons (js_setF 5 (P := (· = cl K [])) scRO.nd (je_lst (ds := []) ja_nil) fun cc hc => ?_)
    subst hc
    refine js_cons (js_for (ds := enumD (nums (nn c.eds))) (fun i Γ => ∃ (ds : List D) (a b : Sl), ds.length ≤ i ∧ Γ = [.d (eC c), .d (.i t), .d (eT st), .p (heldP K), .o (dC (eTk tk)), .o (cl K ds), a, b, .u]) PassesOwn.never rfl (ji_enumT B.enum (je_ix (jv 0) je_int)) (pg_tup rfl (pgs_cons (pg_name scRO.nd rfl (Or.inr rfl)) (pgs_cons (pg_name scRO.nd rfl (Or.inl rfl)) pgs_nil))) (tg_names [6, 7]) ⟨[], .u, .u, Nat.le_refl _, rfl⟩ (fun i dd Γ' hd hI => ?_) fun Γ' hI => ?_)
    · obtain ⟨ds, a, b, hl, rfl⟩ := hI
      rw [enumD_nn, List.getElem?_map] at hd
      obtain ⟨p, hp, rfl⟩ := Option.map_eq_some_iff.mp hd
      obtain ⟨q1, q2⟩ := mem_zipIdx_at (List.mem_of_getElem? hp)
      have hi : i < c.eds.length := by have := (List.getElem?_eq_some_iff.mp hp).1; rwa [List.length_zipIdx] at this
      have hed : p.1 ≤ 2 := by rw [q2]; exact hg.ed _ (List.mem_of_getElem? (at_get q1))
      have hst := hs.le p.2
      have ij : L2.atI (nums (nn st)) ((p.2 : Nat) : Int) = some (eN (at_ st p.2)) := ix_nn (by rw [hs.len]; exact q1)
      have he : ∀ {X : Cx} (hXK : X.K = K), True := fun _ => trivial
      refine ⟨[.d (eC c), .d (.i t), .d (eT st), .p (heldP K), .o (dC (eTk tk)), .o (cl K ds), .d (eN p.2), .d (eN p.1), .u], rfl, js_one (js_append 5 (d := .t (((List.range (p.1 - at_ st p.2)).filter fun _ => true).map fun i => .i (tv tk (p.2, at_ st p.2 + i + 1)))) rfl (je_tupleL B.tuple (je_fp ?lc)) (by omega) ⟨_, .d (eN p.2), .d (eN p.1), ?_, rfl⟩ (hw := pe_bm PySem.F.plainAttrs_list PySem.F.slot_list_append PySem.F.type_list_append mt_append (pv 5) (pa_cons (je_tupleL B.tuple (je_fp ?lc)) pa_nil)))⟩
      case lc =>
        refine je_lc (xs := List.range (p.1 - at_ st p.2)) (enc := fun i => eN (at_ st p.2 + i)) (f := fun i => .i (tv tk (p.2, at_ st p.2 + i + 1))) (pb := fun _ => true) (Γe := fun i => [.d (eC c), .d (.i t), .d (eT st), .p (heldP K), .o (dC (eTk tk)), .o (cl K ds), .d (eN p.2), .d (eN p.1), .d (eN (at_ st p.2 + i))]) [("at", 8)] rfl scRO.nd
          (ji_is (ji_range2 B.range (je_ix (jv 2) (jv 6) ij) (jv 7) (by omega)) (rng_nn2 _ _)) (blkOk_by (N := nRO) (sc := defScope sRO) (by decide +kernel)) (tg_name 8) (by decide) rfl (fun x _ => rfl) (by rw [List.length_range]; omega) (fun _ _ _ _ _ => pg_name scRO.nd rfl (Or.inl rfl)) (fun _ _ _ _ _ _ _ => jts_nil) (fun j hj _ s H C cl fp => je_lend 4 lend_d (je_dget (ns := key2 (p.2, at_ st p.2 + j + 1)) (v := .int (tv tk (p.2, at_ st p.2 + j + 1))) (un1 hr) (jvp 4) (je_tup (ds := nums (key2 (p.2, at_ st p.2 + j + 1))) (ja_cons (jv 6) (ja_cons (je_is (je_add (jv 8) je_int) rfl) ja_nil)) (Nat.le_of_ble_eq_true rfl)) ?_ (.i _)))
        rw [encA_get key2_inj, hhas]
        · rfl
        · have := List.mem_range.mp hj
          exact toDo_mem.mpr ⟨mem_exch.mpr ⟨q1, by show 1 ≤ at_ st p.2 + j + 1; omega, by show at_ st p.2 + j + 1 ≤ at_ c.eds p.2; omega⟩, by show at_ st p.2 < at_ st p.2 + j + 1; omega⟩
      · rw [List.length_append]
        simp only [List.length_cons, List.length_nil]
        omega
    · obtain ⟨ds, a, b, hl, rfl⟩ := hI
      exact js_freeze 5 rfl (js_one (js_ret (je_tupleL B.tuple (je_pl (jvp 5))) (.inr ⟨ds, rfl, hex⟩)))
abbrev sRest : Stmt := topS 44
theorem scRest : FnScope nMid nMid (defScope sRest) := ⟨rfl, rfl, rfl, by decide +kernel, rfl, by decide +kernel, by decide +kernel⟩
def pmRest : Pm := ⟨Clk × Nat × List Nat, fun (c, p, s) => [.d (eC c), .d (eN p), .d (eT s)], fun (c, p, s) => Good c ∧ Std c s ∧ p < c.per, fun (c, p, s) r => RestR c p s r⟩
theorem jcDU {X : Cx} {Γ : En} {e : Expr} {es : List Expr} {p pos : Pos} {k j : Nat} {x : Str} {ps : List Str} {m : Pm} {dvs : List V} {ss sl : List Sl} {PR : D → Prop} (G : DfD X.prog X.w X.K X.mg X.base k x ps m dvs) (i : m.ix) (hr : Room j X.A) (hk : k ≤ j) (hsl : ∀ B, RVs X.K B sl dvs) (hA : m.A i = ss ++ sl) (ha : PA X (e :: es) (tA X.K Γ ss)) (h0 : m.G i) (h1 : ∀ r, m.R i r → ∃ d, r = .d d ∧ PR d)
    (hg : Gl X x := by rfl) (hdb : (x == ("__debug__" : Str)) = false := by decide) (he : starEach (e :: es) X.env = (false, eval e X.env) :: starEach es X.env := by rfl) (hpl : (backTo pos (starEach es X.env)).any (·.1) = false := by rfl) :
    PE X (.Call (.Name x p) (e :: es) [] pos) (tN X.K Γ PR) := by
  obtain ⟨f, fd, ds, F, hm, kp, hv, b⟩ := G.ex
  exact pe_imp (pe_call (dvs := dvs) F (hr.mono hk) hg hm kp b hv pass0 ha hdb he hpl) fun σ H Q ⟨Z, k, q⟩ => ⟨Z, k, fun vs H1 n r1 => by
    show spP X.K m (vs ++ dvs) H1 Q E0
    refine ⟨i, h0, fun P hP => minus_keep.tabG (n.ok.tb P hP), by rw [hA]; exact RVs.app (r1.k minus_keep) (hsl _), fun r v H2 hp kp rv => ?_⟩
    obtain ⟨d, e, hP⟩ := h1 r hp
    subst e
    exact q d v H2 hP (n.trans (Nx.of_keep n.ok kp)) (Dn.k rv (n.ok.keep kp).tk)⟩
theorem ok_rest {T0 : Addr} (hT0 : ∀ B : Hp, SqT K B T0 []) (G1 : Df P w K mg base 5 "need_midst" nMid pmMid) (G2 : DfD P w K mg base 5 "rest_of" psTks (pmRO K) [.ref T0]) (F : Fun K "rest" "rest" sRest f fd) : FnOk P w K mg base CX0 6 f fd nMid (spP K pmRest) := by
  refine fn_ok F scRest (fun _ => rfl) (fun _ _ => by simp [pmRest]) (by decide) fun cdv A outer s H E ⟨c, p, st⟩ hr ⟨hg, hs, hp⟩ => ?_
  show PSs _ _ (tS K [.d (eC c), .d (eN p), .d (eT st)] _)
  refine js_cons (js_expr (jc G1 (c, p, st) hr (by decide) (ja_cons (jv 0) (ja_cons (jv 1) (ja_cons (jv 2) ja_nil))) ⟨hg, hs, hp⟩ fun r h => h) ?_)
  refine js_one (js_retN (P := fun d => RestR c p st (.d d)) (jcDU G2 (c, (p : Int), st) hr (by decide) (sl := [.p (heldP K)]) (fun B => ⟨_, _, rfl, ⟨T0, rfl, hT0 B⟩, rfl⟩) rfl (ja_cons (jv 0) (ja_cons (jv 1) (ja_cons (jv 2) ja_nil))) ⟨hg, hs⟩ fun r h => ?_) fun d h => h)
  rcases h with ⟨e, h⟩ | ⟨ds, e, h⟩
  · exact ⟨.non, e, .inl ⟨rfl, h⟩⟩
  · exact ⟨.t ds, e, .inr ⟨ds, rfl, h⟩⟩
end
end LW
end

section
set_option Elab.async false
set_option linter.all false
set_option maxRecDepth 100000
set_option maxHeartbeats 4000000
/-! D14: dicts whose keys are nested tuples; what stands as values is not told. -/
namespace DL
open PySem PySem.Spec L2 QL
mutual
def toNK : D → NestedKey
  | .non => .none
  | .b x => .num (if x = true then 1 else 0)
  | .i n => .num n
  | .t xs => .tup (toNKs xs)
  | .c _ => .none
  | .s _ => .none
def toNKs : List D → List NestedKey
  | [] => []
  | x :: xs => toNK x :: toNKs xs
end
mutual
/-- data of which only tuples of the common form are part -/
def plainD : D → Bool
  | .t xs => plainDs xs
  | .c _ => false
  | .s _ => false
  | _ => true
def plainDs : List D → Bool
  | [] => true
  | x :: xs => plainD x && plainDs xs
end
mutual
theorem nis_of {h : Heap} : ∀ (d : D) (v : Value), plainD d = true → VD h d v → NestedIs h (toNK d) v
  | .non, v, _, q => by
    have q : v = .none := q
    subst q
    simp only [toNK]
    exact .none
  | .b x, v, _, q => by
    have q : v = .bool x := q
    subst q
    simp only [toNK]
    exact .bool rfl
  | .i n, v, _, q => by
    obtain ⟨t, rfl⟩ := q
    simp only [toNK]
    exact .int n t
  | .t xs, v, pd, ⟨a, its, e, ⟨o, h1, h2, n, h3⟩, z, q⟩ => by
    subst e
    simp only [toNK]
    exact .tup h1 h2 h3 (by simpa using nall_of xs its (by simpa only [plainD] using pd) q)
  | .c _, v, pd, _ => by simp [plainD] at pd
  | .s _, v, pd, _ => by simp [plainD] at pd
theorem nall_of {h : Heap} : ∀ (ds : List D) (vs : List Value), plainDs ds = true → VDs h ds vs → NestedAll h (toNKs ds) vs
  | [], vs, _, q => by
    have q : vs = [] := q
    subst q
    simp only [toNKs]
    exact .nil
  | x :: xs, _, pd, ⟨v, r, e, q1, q2⟩ => by
    subst e
    simp only [toNKs]
    simp only [plainDs, Bool.and_eq_true] at pd
    exact .cons (nis_of x v pd.1 q1) (nall_of xs r pd.2 q2)
end
theorem toNKs_map {α : Type} (f : α → D) : ∀ l : List α, toNKs (l.map f) = l.map fun x => toNK (f x)
  | [] => rfl
  | x :: l => by rw [List.map_cons, List.map_cons, ← toNKs_map f l]; simp only [toNKs]
/-- how keys are laid: their data, apart by their nested keys, not deep -/
structure KeyEnc (α : Type) where
  e : α → D
  tup : ∀ k, ∃ ds, e k = .t ds
  inj : ∀ k k', toNK (e k) = toNK (e k') → k = k'
  dep : ∀ k, (toNK (e k)).depth ≤ 8
  pln : ∀ k, plainD (e k) = true
/-- the dict at d: its keys and where their tuples stand -/
def nD (P : Program) (w : World) (d : Addr) (es : List (NestedKey × Addr)) : HO := .ext fun h => (d == sysModules) = false ∧ es.length ≤ sizeLine ∧ ∃ xs : List (NestedKey × Addr × Value), xs.map (fun x => (x.1, x.2.1)) = es ∧
  ∃ o ds ep, h.get? d = some o ∧ o.ExactDict ∧ o.data = .dict ds ep ∧ ds.toList = xs.map (entryOfKey (nestedKind P w)) ∧ (xs.map (·.1)).Nodup
theorem nD_ok {P : Program} {w : World} {H : Hp} {h : Heap} {d : Addr} {es : List (NestedKey × Addr)} {xs : List (NestedKey × Addr × Value)} (h1 : (d == sysModules) = false) (h2 : es.length ≤ sizeLine) (h3 : xs.map (fun x => (x.1, x.2.1)) = es) (hm : h.DictOfH (nestedKind P w) d xs) : ObjOk P w H h d (nD P w d es) := by
  obtain ⟨o, ds, ep, g1, g2, g3, g4, g5, g6⟩ := hm
  exact ⟨⟨h1, h2, xs, h3, o, ds, ep, g1, g2, g3, g4, g6⟩, ⟨o, g1⟩, fun ha hb ⟨q1, q2, xs, q3, o, ds, ep, q4, q5⟩ k => ⟨q1, q2, xs, q3, o, ds, ep, k o q4, q5⟩⟩
section
variable {α : Type} [DecidableEq α] (E : KeyEnc α)
def KsA (K : PySem.W.Frag) (H : Hp) (ks : List α) (es : List (NestedKey × Addr)) : Prop := Paired (fun k q => q.1 = toNK (E.e k) ∧ Dn K H (E.e k) (.ref q.2)) ks es
variable {E}
theorem KsA.k {K : PySem.W.Frag} {H H' : Hp} {ks : List α} {es : List (NestedKey × Addr)} (h : KsA E K H ks es) (k : TK H H') : KsA E K H' ks es := Paired.mapP h fun _ _ z => ⟨z.1, z.2.k k⟩
theorem KsA.mem {K : PySem.W.Frag} {H : Hp} {ks : List α} {es : List (NestedKey × Addr)} (h : KsA E K H ks es) (k : α) : toNK (E.e k) ∈ es.map (·.1) ↔ k ∈ ks := by
  unfold KsA at h
  induction h with
  | nil => simp
  | @cons k' q ks es r t ih =>
    rw [List.map_cons, List.mem_cons, List.mem_cons, ih, r.1]
    constructor
    · rintro (z | z)
      · exact .inl (E.inj _ _ z)
      · exact .inr z
    · rintro (z | z)
      · exact .inl (by rw [z])
      · exact .inr z
theorem KsA.at {K : PySem.W.Frag} {H : Hp} {ks : List α} {es : List (NestedKey × Addr)} (h : KsA E K H ks es) : ∀ q ∈ es, ∃ k, q.1 = toNK (E.e k) ∧ Dn K H (E.e k) (.ref q.2) := by
  unfold KsA at h
  induction h with
  | nil => intro q hq; cases hq
  | cons r t ih =>
    intro q hq
    rcases List.mem_cons.mp hq with z | z
    · rw [z]
      exact ⟨_, r⟩
    · exact ih q z
theorem KsA.len {K : PySem.W.Frag} {H : Hp} {ks : List α} {es : List (NestedKey × Addr)} (h : KsA E K H ks es) : ks.length = es.length := Paired.length h
variable (E)
def nC (P : Program) (w : World) (K : PySem.W.Frag) (ks : List α) : Ct := ⟨fun d o H => ∃ es, o = nD P w d es ∧ KsA E K H ks es, fun _ _ _ _ k ⟨es, e, h⟩ => ⟨es, e, h.k k⟩, fun _ o H ⟨es, e, _⟩ => by rw [e]; exact ⟨rfl, rfl⟩⟩
def nP (P : Program) (w : World) (K : PySem.W.Frag) (ks : List α) : Ps := ⟨fun H v => ∃ d es, v = .ref d ∧ H d = some (nD P w d es) ∧ KsA E K H ks es, fun _ _ _ k ⟨d, es, e, h1, h2⟩ => ⟨d, es, e, k.obj _ _ h1 rfl, h2.k k.tk⟩⟩
variable {E}
theorem lend_n {P : Program} {w : World} {K : PySem.W.Frag} {ks : List α} : Lend (nC E P w K ks) (nP E P w K ks) := fun a ob B B' ⟨es, e, h⟩ k ha => ⟨a, es, rfl, by rw [ha, e], h.k k⟩
section
variable {X : Cx} {pins : List (Addr × Obj)} {σ : St} {H B : Hp} {s : Shared} {d b : Addr} {es : List (NestedKey × Addr)} {ks : List α} {k : α}
theorem nd_at (I : Inv X pins σ H s) (hd : H d = some (nD X.prog X.w d es)) (hk : KsA E X.K H ks es) : ∃ xs : List (NestedKey × Addr × Value), xs.map (fun x => (x.1, x.2.1)) = es ∧ (d == sysModules) = false ∧ es.length ≤ sizeLine ∧ s.heap.DictOfH (nestedKind X.prog X.w) d xs := by
  obtain ⟨⟨h1, h2, xs, h3, o, ds, ep, g1, g2, g3, g4, g5⟩, _, _⟩ := (show ObjOk X.prog X.w H s.heap d (nD X.prog X.w d es) from I.hok d _ hd)
  refine ⟨xs, h3, h1, h2, o, ds, ep, g1, g2, g3, g4, fun x hx => ?_, g5⟩
  obtain ⟨k, e1, e2⟩ := hk.at (x.1, x.2.1) (by rw [← h3]; exact List.mem_map.mpr ⟨x, hx, rfl⟩)
  have e1 : x.1 = toNK (E.e k) := e1
  rw [e1]
  exact ⟨nis_of _ _ (E.pln k) (vd_of I.hok _ _ _ e2 rfl), E.dep k⟩
theorem nkey_is (I : Inv X pins σ H s) (h : Dn X.K H (E.e k) (.ref b)) : (nestedKind X.prog X.w).is s.heap (toNK (E.e k)) b := ⟨nis_of _ _ (E.pln k) (vd_of I.hok _ _ _ h rfl), E.dep k⟩
theorem atKey_some {xs : List (NestedKey × Addr × Value)} (nk : NestedKey) : (atKey xs nk).isSome = decide (nk ∈ (xs.map fun x => (x.1, x.2.1)).map (·.1)) := by
  rw [List.map_map]
  induction xs with
  | nil => rfl
  | cons x xs ih =>
    by_cases h : x.1 = nk
    · rw [show atKey (x :: xs) nk = some x.2 by simp [atKey, h]]
      exact (decide_eq_true (List.mem_map.mpr ⟨x, List.mem_cons_self, h⟩)).symm
    · rw [show atKey (x :: xs) nk = atKey xs nk by simp [atKey, h], ih]
      refine decide_eq_decide.mpr ?_
      rw [List.map_cons, List.mem_cons]
      exact ⟨.inr, fun z => z.resolve_left fun z => h z.symm⟩
/-- the keys behind d[k] = .. -/
def putN (ks : List α) (k : α) : List α := if k ∈ ks then ks else ks ++ [k]
def putE (es : List (NestedKey × Addr)) (nk : NestedKey) (b : Addr) : List (NestedKey × Addr) := if nk ∈ es.map (·.1) then es else es ++ [(nk, b)]
theorem KsA.put {K : PySem.W.Frag} (h : KsA E K B ks es) (hb : Dn K B (E.e k) (.ref b)) : KsA E K B (putN ks k) (putE es (toNK (E.e k)) b) := by
  unfold putN putE
  by_cases q : k ∈ ks
  · rw [if_pos q, if_pos ((h.mem k).mpr q)]
    exact h
  · rw [if_neg q, if_neg fun z => q ((h.mem k).mp z)]
    exact Paired.snoc h ⟨rfl, hb⟩
theorem storedH_es {xs : List (NestedKey × Addr × Value)} (h : xs.map (fun x => (x.1, x.2.1)) = es) (nk : NestedKey) (v : Value) : (storedH xs nk b v).map (fun x => (x.1, x.2.1)) = putE es nk b := by
  unfold storedH putE
  rw [atKey_some, h]
  by_cases q : nk ∈ es.map (·.1)
  · rw [decide_eq_true q, if_pos rfl, if_pos q, List.map_map, ← h]
    apply List.map_congr_left
    intro x _
    simp only [Function.comp_apply, putAt]
    split <;> rfl
  · rw [decide_eq_false q, if_neg Bool.false_ne_true, if_neg q, List.map_append, h]
    rfl
theorem putE_len : (putE es (toNK (E.e k)) b).length ≤ es.length + 1 := by
  unfold putE
  split
  · omega
  · rw [List.length_append]
    exact Nat.le_refl _
/-- d[k] = v -/
theorem n_setItem {Ex : Value → Shared → Prop} {Q : Unit → Shared → Prop} {v : Value} {A : Around} (hu : A.units + 9 < cLine) (I : Inv X pins σ H s) (hd : H d = some (nD X.prog X.w d es)) (hk : KsA E X.K H ks es) (hb : Dn X.K H (E.e k) (.ref b)) (hz : es.length < 100000)
    (h : ∀ s', Inv X pins σ (upd H d (nD X.prog X.w d (putE es (toNK (E.e k)) b))) s' → Q () s') : wpAny (model X.prog X.w) A (setItem (.ref d) (.ref b) v) Q Ex s := by
  obtain ⟨xs, h3, h1, h2, dd⟩ := nd_at I hd hk
  have hxl : xs.length = es.length := by rw [← h3, List.length_map]
  refine wpAny_setItem_heap (hsz := by rw [hxl]; exact h2) (show (nestedKind X.prog X.w).room A.in1 from by show A.units + 1 + 8 < cLine; omega) (nkey_is I hb) dd fun h' dd' hs => h _ ?_
  have he : ∃ q, h'.get? d = some q := let ⟨q, _, _, hq, _⟩ := dd'; ⟨q, hq⟩
  refine d_write I (by rw [hd]; exact True.intro) hs he (nD_ok h1 ?_ (storedH_es h3 _ _) dd')
  exact Nat.le_trans (putE_len (E := E)) (Nat.le_trans (show es.length + 1 ≤ 100000 by omega) (by decide))
theorem n_dictSet {Ex : Value → Shared → Prop} {Q : Unit → Shared → Prop} {v : Value} {A : Around} (hu : A.units + 9 < cLine) (I : Inv X pins σ H s) (hd : H d = some (nD X.prog X.w d es)) (hk : KsA E X.K H ks es) (hb : Dn X.K H (E.e k) (.ref b)) (hz : es.length < 100000)
    (h : ∀ s', Inv X pins σ (upd H d (nD X.prog X.w d (putE es (toNK (E.e k)) b))) s' → Q () s') : wpAny (model X.prog X.w) A (dictSet d (.ref b) v) Q Ex s := by
  obtain ⟨xs, h3, h1, h2, dd⟩ := nd_at I hd hk
  have hxl : xs.length = es.length := by rw [← h3, List.length_map]
  refine wpAny_dictSet_heap (hsz := by rw [hxl]; exact h2) (show (nestedKind X.prog X.w).room A from by show A.units + 8 < cLine; omega) (nkey_is I hb) dd fun h' dd' hs => h _ ?_
  have he : ∃ q, h'.get? d = some q := let ⟨q, _, _, hq, _⟩ := dd'; ⟨q, hq⟩
  refine d_write I (by rw [hd]; exact True.intro) hs he (nD_ok h1 ?_ (storedH_es h3 _ _) dd')
  exact Nat.le_trans (putE_len (E := E)) (Nat.le_trans (show es.length + 1 ≤ 100000 by omega) (by decide))
end
section
variable {X : Cx} {Γ : En} {o e a : Expr} {pos p p' : Pos} {ks : List α} {k : α} {Ψ : Out → Prop} {x : Str} {d : D}
/-- {} -/
def tNew (P : Program) (w : World) : TE := fun _ H Q => ∀ p, H p = none → Q (.ref p) (upd H p (nD P w p []))
theorem nd_empty {P : Program} {w : World} {H : Hp} (h : Heap) (hb : sysModules < h.objs.size) : ObjOk P w H (h.push { cls := .type "dict", data := .dict #[] }) h.objs.size (nD P w h.objs.size []) :=
  nD_ok (xs := []) (beq_eq_false_iff_ne.mpr (Ne.symm (Nat.ne_of_lt hb))) (Nat.zero_le _) rfl (Heap.DictOfH.new h)
theorem pe_dnewN : PE X (.Dict [] [] pos) (tNew X.prog X.w) := ⟨fun pins s σ H Q I h =>
  wpAny_Dict_empty ⟨.ref s.heap.objs.size, _, I.laid (a := s.heap.objs.size) (o := nD X.prog X.w s.heap.objs.size []) (t' := s.toks) (fun _ _ q => Heap.get?_push_of_some _ q) (Nat.le_refl _) (nd_empty s.heap I.big), rfl, h _ (I.hok.fresh (Nat.le_refl _))⟩⟩
theorem je_nnew : PE X (.Dict [] [] pos) (tF X.K Γ (· = nC E X.prog X.w X.K ([] : List α))) := pe_imp pe_dnewN fun σ H Q ⟨Z, k, q⟩ => fun p hp => q (nC E X.prog X.w X.K []) p _ _ rfl (Nx.new k hp) hp upd_same ⟨[], rfl, .nil⟩
theorem ekey {K : PySem.W.Frag} {H : Hp} {y : V} (h : Dn K H (E.e k) y) : ∃ b, y = .ref b := by
  obtain ⟨ds, e⟩ := E.tup k
  rw [e] at h
  obtain ⟨b, vs, e2, _⟩ := h
  exact ⟨b, e2⟩
/-- k in d -/
def tNIn (neg : Bool) (E : KeyEnc α) (P : Program) (w : World) (K : PySem.W.Frag) (ty td : TE) : TE := fun σ H Q => ty σ H fun y H1 => td σ H1 fun z H2 => ∃ b d es ks k, y = .ref b ∧ z = .ref d ∧ H2 d = some (nD P w d es) ∧ KsA E K H2 ks es ∧ Dn K H2 (E.e k) (.ref b) ∧ Q (.bl (if neg = true then !decide (k ∈ ks) else decide (k ∈ ks))) H2
theorem pc_nin {ty td : TE} (hu : X.A.units + 9 < cLine) (hi : PE X e ty) (ho : PE X o td) : PC X .In e o (tNIn false E X.prog X.w X.K ty td) := by
  refine ⟨fun pins s σ H Q I h => ?_⟩
  refine thn (hi.run pins s σ H _ I h) fun iv s1 ⟨y, H1, I1, ry, q1⟩ => thn (ho.run pins s1 σ H1 _ I1 q1) fun u s2 ⟨z, H2, I2, rz, b, d, es, ks, k, ey, ez, hd, hks, hb, q2⟩ => ?_
  subst ey ez
  obtain rfl : iv = Value.ref b := ry
  obtain rfl : u = Value.ref d := rz
  obtain ⟨xs, h3, h1, h2, dd⟩ := nd_at I2 hd hks
  refine wpAny_in_heap (show (nestedKind X.prog X.w).room X.A.in1 from by show X.A.units + 1 + 8 < cLine; omega) (nkey_is I2 hb) h1 dd ⟨.bl _, H2, I2.tok _, rfl, ?_⟩
  rw [atKey_some, h3, decide_eq_decide.mpr (hks.mem k)]
  exact q2
theorem pc_nni {ty td : TE} (hu : X.A.units + 9 < cLine) (hi : PE X e ty) (ho : PE X o td) : PC X .NotIn e o (tNIn true E X.prog X.w X.K ty td) := by
  refine ⟨fun pins s σ H Q I h => ?_⟩
  refine thn (hi.run pins s σ H _ I h) fun iv s1 ⟨y, H1, I1, ry, q1⟩ => thn (ho.run pins s1 σ H1 _ I1 q1) fun u s2 ⟨z, H2, I2, rz, b, d, es, ks, k, ey, ez, hd, hks, hb, q2⟩ => ?_
  subst ey ez
  obtain rfl : iv = Value.ref b := ry
  obtain rfl : u = Value.ref d := rz
  obtain ⟨xs, h3, h1, h2, dd⟩ := nd_at I2 hd hks
  show wpAny _ _ (do return Value.bool (!(← contains (.ref d) (.ref b)))) _ _ s2
  refine wpAny_bind (wpAny_contains_heap (show (nestedKind X.prog X.w).room X.A.in1 from by show X.A.units + 1 + 8 < cLine; omega) (nkey_is I2 hb) h1 dd (wpAny_pure ⟨.bl _, H2, I2.tok _, rfl, ?_⟩))
  rw [atKey_some, h3, decide_eq_decide.mpr (hks.mem k)]
  exact q2
theorem je_nin (hu : X.A.units + 9 < cLine) (hi : PE X e (tR X.K Γ (.d (E.e k)))) (ho : PE X o (tR X.K Γ (.p (nP E X.prog X.w X.K ks)))) (hm : behindInMarks .In o = false := by rfl) : PE X (.Compare e [.In] [o] pos) (tR X.K Γ (.d (.b (decide (k ∈ ks))))) :=
  pe_imp (pe_cmp (pc_nin (E := E) hu hi ho) hm) fun σ H Q ⟨Z, kk, q⟩ => ⟨Z, kk, fun v1 H1 n1 r1 => ⟨Z, n1.ok, fun v2 H2 n2 ⟨d, es, e2, hd, hks⟩ => by
    obtain ⟨b, e1⟩ := ekey r1
    subst e1
    exact ⟨b, d, es, ks, k, rfl, e2, (minus_some hd).1, hks.k minus_keep.tk, Dn.k (Dn.k r1 n2.kp.tk) minus_keep.tk, q _ H2 (n1.trans n2) rfl⟩⟩⟩
theorem jt_nin (hu : X.A.units + 9 < cLine) (hi : PE X e (tR X.K Γ (.d (E.e k)))) (ho : PE X o (tR X.K Γ (.p (nP E X.prog X.w X.K ks)))) (hm : behindInMarks .In o = false := by rfl) : PT X (.Compare e [.In] [o] pos) (tT X.K Γ (decide (k ∈ ks))) :=
  pt_imp (pt_cmp (pc_nin (E := E) hu hi ho) hm) fun σ H Q ⟨Z, kk, q⟩ => ⟨Z, kk, fun v1 H1 n1 r1 => ⟨Z, n1.ok, fun v2 H2 n2 ⟨d, es, e2, hd, hks⟩ => by
    obtain ⟨b, e1⟩ := ekey r1
    subst e1
    exact ⟨b, d, es, ks, k, rfl, e2, (minus_some hd).1, hks.k minus_keep.tk, Dn.k (Dn.k r1 n2.kp.tk) minus_keep.tk, _, rfl, q H2 (n1.trans n2)⟩⟩⟩
theorem jt_nni (hu : X.A.units + 9 < cLine) (hi : PE X e (tR X.K Γ (.d (E.e k)))) (ho : PE X o (tR X.K Γ (.p (nP E X.prog X.w X.K ks)))) (hm : behindInMarks .NotIn o = false := by rfl) : PT X (.Compare e [.NotIn] [o] pos) (tT X.K Γ (!decide (k ∈ ks))) :=
  pt_imp (pt_cmp (pc_nni (E := E) hu hi ho) hm) fun σ H Q ⟨Z, kk, q⟩ => ⟨Z, kk, fun v1 H1 n1 r1 => ⟨Z, n1.ok, fun v2 H2 n2 ⟨d, es, e2, hd, hks⟩ => by
    obtain ⟨b, e1⟩ := ekey r1
    subst e1
    exact ⟨b, d, es, ks, k, rfl, e2, (minus_some hd).1, hks.k minus_keep.tk, Dn.k (Dn.k r1 n2.kp.tk) minus_keep.tk, _, rfl, q H2 (n1.trans n2)⟩⟩⟩
/-- d[k] = v, in a statement -/
def sNPut (E : KeyEnc α) (P : Program) (w : World) (K : PySem.W.Frag) (td ty tv : TE) : TS := fun D σ H => tv σ H fun v H1 => td σ H1 fun z H2 => ty σ H2 fun y H3 => ∃ b d es ks k, y = .ref b ∧ z = .ref d ∧ H3 d = some (nD P w d es) ∧ KsA E K H3 ks es ∧ es.length < 100000 ∧ Dn K H3 (E.e k) (.ref b) ∧ D.nx σ (upd H3 d (nD P w d (putE es (toNK (E.e k)) b)))
theorem ps_nput {td ty tv : TE} {value : Expr} (hu : X.A.units + 9 < cLine) (ho : PE X o td) (hi : PE X e ty) (hv : PE X value tv) (hs : swapsWith value (some (.Subscript o e p')) pos.line X.env = pure false) : PS X (.Assign [.Subscript o e p'] value pos) (sNPut E X.prog X.w X.K td ty tv) := by
  refine ⟨fun pins s σ H D I h => ?_⟩
  refine wpAny_Assign_Subscript (thn (hv.run pins s σ H _ I h) fun r s1 ⟨v, H1, I1, rv, q1⟩ => thn (ho.run pins s1 σ H1 _ I1 q1) fun u s2 ⟨z, H2, I2, rz, q2⟩ => thn (hi.run pins s2 σ H2 _ I2 q2) fun iv s3 ⟨y, H3, I3, ry, b, d, es, ks, k, ey, ez, hd, hks, hz, hb, q3⟩ => ?_) hs
  subst ey ez
  obtain rfl : iv = Value.ref b := ry
  obtain rfl : u = Value.ref d := rz
  exact n_setItem hu I3 hd hks hb hz fun s4 I4 => ⟨σ, _, I4, q3⟩
theorem js_nput (i : Nat) {value : Expr} (hu : X.A.units + 9 < cLine) (hv : Γ[i]? = some (.o (nC E X.prog X.w X.K ks))) (he : PE X value (tR X.K Γ (.d d))) (hk : PE X a (tR X.K Γ (.d (E.e k)))) (hz : ks.length < 100000) (h : Ψ (.nx (Γ.set i (.o (nC E X.prog X.w X.K (putN ks k)))))) (hN : X.N[i]? = some x := by rfl) (hx : Vis X.env.scope x := by first | exact Or.inl rfl | exact Or.inr (Or.inl rfl) | exact Or.inr (Or.inr rfl))
    (hd : (x == ("__debug__" : Str)) = false := by decide) (hcd : (x == ("__classdict__" : Str)) = false := by decide) (hs : swapsWith value (some (.Subscript (.Name x p') a p)) pos.line X.env = pure false := by rfl) : PS X (.Assign [.Subscript (.Name x p') a p] value pos) (tS X.K Γ Ψ) :=
  ps_imp (ps_nput (E := E) hu (pe_var hN hx hd hcd) hk he hs) fun D σ H ⟨H0, ok, h1, _, _⟩ => by
    refine ⟨noZ, ok.toOkS, fun v H1 n1 r1 => ?_⟩
    obtain ⟨u, e1, aa, ob, e2, e3, on⟩ := n1.ok.sl i _ hv
    subst e2
    refine ⟨.ref aa, e1, noZ, n1.ok, fun y H2 n2 r2 => ?_⟩
    obtain ⟨b, ey⟩ := ekey r2
    subst ey
    obtain ⟨u2, f1, a2, ob2, f2, f3, es, eo, hks⟩ := n2.ok.sl i _ hv
    rw [e1] at f1
    cases f1
    cases f2
    subst eo
    refine ⟨b, aa, es, ks, k, rfl, rfl, f3, hks.k minus_keep.tk, by rw [← hks.len]; exact hz, Dn.k r2 minus_keep.tk, ?_⟩
    exact h1 _ _ _ h ((ok.nx (n1.trans n2)).write hv e1 ⟨_, rfl, hks.put r2⟩)
end
end
end DL
end

section
set_option Elab.async false
set_option linter.all false
set_option maxRecDepth 100000
set_option maxHeartbeats 4000000
/-! D15: a dict comprehension whose keys are nested tuples. -/
namespace L2
open PySem PySem.Spec PyProof.Rows DL QL
section
variable {α : Type} [DecidableEq α] (E : KeyEnc α) {X : Cx}
/-- {k: v for target in iter if ..} -/
def tDcn (P : Program) (w : World) (K : PySem.W.Frag) (wi : TI) (g : TG) (tt : TT) (tk tv : TE) (vs : List Nat) : TE := fun σ H Q => wi σ H fun J H1 => ∀ D, H1 D = none → ∃ W : Nat → Nat → Hp → Prop, (∃ m, W 0 m (upd H1 D (nD P w D []))) ∧ ∀ i m H, W i m H →
  (J.stop i H ∧ Q (.ref D) H) ∨ (J.go i H ∧ ∃ Nx : Hp → Prop, (∀ H', Nx H' → ∃ m', m' < m ∧ W (i + 1) m' H') ∧ ∀ x H', J.yld i H x H' → g x (wipe σ vs) H' fun σ2 H2 => wipe σ2 vs = wipe σ vs ∧ tt σ2 H2 fun b H3 =>
    if b = true then tk σ2 H3 fun y H4 => tv σ2 H4 fun z H5 => ∃ b es ks k, y = .ref b ∧ H5 D = some (nD P w D es) ∧ KsA E K H5 ks es ∧ es.length < 100000 ∧ Dn K H5 (E.e k) (.ref b) ∧ Nx (upd H5 D (nD P w D (putE es (toNK (E.e k)) b))) else Nx H3)
variable {E}
theorem dcn_core {pins : List (Addr × Obj)} {s : Shared} {σ : St} {H : Hp} {Q : VK} {kx vx tg iter : Expr} {ifs : List Expr} {scope : Scope} {own : List (Str × Nat)} {pos pos' : Pos} {wi : TI} {g : TG} {tt : TT} {tk tv : TE} {use : Option (Value → Sem Unit)} {Qf : Value → Shared → Prop}
    (hun : X.A.units + 9 < cLine) (hc : X.calm = true) (hN : X.N.Nodup) (I : Inv X pins σ H s) (hi : PI X tg iter wi) (ok : BlkOk X.N X.env.scope scope own)
    (hg : ∀ (s : Shared) (H : Hp) (C : Addr) (cl : List (Str × Addr)) (fp : List Addr), PG (X.blk s H scope (compEnvC scope cl C X.env) fp) tg g) (ht : ∀ (s : Shared) (H : Hp) (C : Addr) (cl : List (Str × Addr)) (fp : List Addr), PTs (X.blk s H scope (compEnvC scope cl C X.env) fp) ifs tt)
    (hk : ∀ (s : Shared) (H : Hp) (C : Addr) (cl : List (Str × Addr)) (fp : List Addr), PE (X.blk s H scope (compEnvC scope cl C X.env) fp) kx tk)
    (he : ∀ (s : Shared) (H : Hp) (C : Addr) (cl : List (Str × Addr)) (fp : List Addr), PE (X.blk s H scope (compEnvC scope cl C X.env) fp) vx tv) (hs : ∀ x, foldedSetIterable iter X.env x = pure x)
    (h : tDcn E X.prog X.w X.K wi g tt tk tv (own.map (·.2)) σ H Q)
    (hRR : ∀ D C s' m H', Inv X pins σ H' s' → Q (.ref D) H' → s'.heap.Ns C m → FpOk X pins H' C → compPost (model X.prog X.w) X.A X.xe use Qf (.ref D) C (.ok .next) s') :
    wpAny (model X.prog X.w) X.A (comprehension (.DictComp kx vx [⟨tg, iter, ifs, 0⟩] scope pos) scope X.env pos' newDict false (eval iter X.env) use) Qf X.xe s := by
  have hfree : ∀ y ∈ scope.names, y.2 = .free → ∃ c, X.env.cells.lookup y.1 = some c := fun y hy e => by
    rcases ok.free y hy e with k | k
    · exact I.ok.has _ (.inl k)
    · exact I.ok.has _ (.inr k)
  refine wpAny_comprehension_free (use := use) rfl hs (closure_ok hfree) ok.kind (fun y hy e => by rw [ok.uniq y hy, e])
    (thn (hi.run pins s σ H _ I h) fun xv s1 hx => thn hx fun itv s2 h2 => ?_)
  obtain ⟨it, fp, tn, J, H2, e, I2, T, st2, f2, q⟩ := h2
  subst e
  refine wpAny_newObj_type (newEnv_comp ?_)
  generalize hD : s2.heap.objs.size = D
  have hDn : H2 D = none := I2.hok.fresh (Nat.le_of_eq hD)
  obtain ⟨W, ⟨m0, w0⟩, turn⟩ := q D hDn
  -- the new list
  generalize hs3 : ({ s2 with heap := s2.heap.push { cls := .type "dict", data := .dict #[] } } : Shared) = s3
  have I3 : Inv X pins σ (upd H2 D (nD X.prog X.w D [])) s3 := by
    rw [← hs3]
    refine I2.laid (t' := s2.toks) (fun b o e => Heap.get?_push_of_some _ e) (Nat.le_of_eq hD) ?_
    rw [← hD]
    exact nd_empty s2.heap I2.big
  have h3 : s3.heap = s2.heap.push { cls := .type "dict", data := .dict #[] } := by rw [← hs3]
  have sz : ∀ b ∈ fp, b < s2.heap.objs.size := fun b hb => by
    obtain ⟨o, e, _⟩ := T.obj _ _ st2 b hb
    exact Heap.lt_size e
  have f3 : ∀ b ∈ fp, FpOk X pins (upd H2 D (nD X.prog X.w D [])) b ∧ b < s3.heap.objs.size := fun b hb => by
    have hlt := sz b hb
    refine ⟨⟨?_, (f2 b hb).2⟩, by rw [h3, Heap.size_push]; exact Nat.lt_succ_of_lt hlt⟩
    rw [upd_ne (by rw [← hD]; exact Nat.ne_of_lt hlt)]
    exact (f2 b hb).1
  have st3 : tn 0 s3.heap := T.keep _ _ _ st2 fun b _ o e => by rw [h3]; exact Heap.get?_push_of_some _ e
  have I4 := block_start I3 ok hN f3
  have pg := hg s3 (upd H2 D (nD X.prog X.w D [])) s3.heap.objs.size (cellsFrom (s3.heap.objs.size + 1) scope.names (cloFrom X.env.cells scope.names [])) fp
  have pt := ht s3 (upd H2 D (nD X.prog X.w D [])) s3.heap.objs.size (cellsFrom (s3.heap.objs.size + 1) scope.names (cloFrom X.env.cells scope.names [])) fp
  have pk := hk s3 (upd H2 D (nD X.prog X.w D [])) s3.heap.objs.size (cellsFrom (s3.heap.objs.size + 1) scope.names (cloFrom X.env.cells scope.names [])) fp
  have pe := he s3 (upd H2 D (nD X.prog X.w D [])) s3.heap.objs.size (cellsFrom (s3.heap.objs.size + 1) scope.names (cloFrom X.env.cells scope.names [])) fp
  show codeAny _ _ (.compStart (.DictComp kx vx [⟨tg, iter, ifs, 0⟩] scope pos) 0 (.ref it) (.ref D) (compEnvC scope (cellsFrom (s3.heap.objs.size + 1) scope.names (cloFrom X.env.cells scope.names [])) s3.heap.objs.size X.env)) (compPost (model X.prog X.w) X.A X.xe use Qf (.ref D) s3.heap.objs.size) { s3 with heap := pushCells (s3.heap.push { cls := .type "dict", data := .dict #[] }) scope.names }
  have nfp : ∀ b ∈ fp, (upd H2 D (nD X.prog X.w D [])) b = none := fun b hb => (f3 b hb).1.1
  generalize hce : compEnvC scope (cellsFrom (s3.heap.objs.size + 1) scope.names (cloFrom X.env.cells scope.names [])) s3.heap.objs.size X.env = ce at I4 pg pt pk pe ⊢
  have cL : ce.locals = s3.heap.objs.size := by subst hce; rfl
  generalize hH3 : upd H2 D (nD X.prog X.w D []) = H3 at I3 I4 pg pt pk pe w0 nfp f3
  generalize hs4 : ({ s3 with heap := pushCells (s3.heap.push { cls := .type "dict", data := .dict #[] }) scope.names } : Shared) = s4 at I4 ⊢
  have st4 : tn 0 s4.heap := T.keep _ _ _ st3 fun b _ o e => by rw [← hs4]; exact pushCells_keeps _ _ _ _ (Heap.get?_push_of_some _ e)
  have stat : ∀ {σ' : St} {H' : Hp} {s' : Shared}, Inv (X.blk s3 H3 scope ce fp) [] σ' H' s' → (∀ b ∈ fp, H' b = none) → ∀ b ∈ fp, FpOk (X.blk s3 H3 scope ce fp) [] H' b := fun {σ' H' s'} I' hn b hb =>
    ⟨hn b hb, (I'.ok.exf b hb).1, I'.ok.exfs b hb, .inl hb, fun x c e => (I'.ok.exf b hb).2 x c e, fun p hp => absurd (show p ∈ ([] : List (Addr × Obj)) ++ [] from hp) (by simp)⟩
  have loop : codeAny (model X.prog X.w) X.A (.compLoop (.DictComp kx vx [⟨tg, iter, ifs, 0⟩] scope pos) 0 (.ref it) (.ref D) ce) (compPost (model X.prog X.w) X.A X.xe use Qf (.ref D) s3.heap.objs.size) s4 := by
    refine compLoop_anyD (fun n s' => ∃ i H', Inv (X.blk s3 H3 scope ce fp) [] (wipe σ (own.map (·.2))) H' s' ∧ tn i s'.heap ∧ (∀ b ∈ fp, H' b = none) ∧ W i n H') ?_ m0 ⟨0, H3, I4, st4, nfp, w0⟩
    rintro n s5 ⟨i, H5, I5, st5, n5, w5⟩
    rcases turn i n H5 w5 with ⟨stop, qq⟩ | ⟨go, Nx, hNx, step⟩
    · have td := T.done (X.blk s3 H3 scope ce fp) rfl rfl rfl hc i [] s5 _ H5 (fun _ _ => False) I5 (stat I5 n5) st5 stop
      refine thnF td fun r s6 ⟨hr, I6⟩ => ?_
      subst hr
      -- back in the def's context
      have I7 : Inv X pins σ H5 s6 := I3.call' (ch := fp) I6.os I6.base I6.hok I6.bare fun b hb => ⟨(f3 b hb).1.2.2.2.1, (f3 b hb).1.2.1, (f3 b hb).1.2.2.2.2.1, (f3 b hb).1.2.2.2.2.2⟩
      have nC : H5 s3.heap.objs.size = none := by
        have z : H5 ce.locals = none := I6.free
        rw [cL] at z
        exact z
      obtain ⟨m, hn, _⟩ := I6.loc
      have hn : s6.heap.Ns ce.locals m := hn
      rw [cL] at hn
      exact hRR D s3.heap.objs.size s6 m H5 I7 qq hn (I3.fpOk (Nat.le_refl _) nC)
    · have ti := T.item (X.blk s3 H3 scope ce fp) rfl rfl rfl hc i [] s5 _ H5 (fun _ _ => False) I5 (stat I5 n5) st5 go
      refine thnF ti fun r s6 ⟨u, hr, h6⟩ => ?_
      subst hr
      refine thnF h6 fun _ s7 ⟨x, H7, I7, r7, y7, st7, n7⟩ => ?_
      have I7' := I7.pinned (stat I7 n7) (T.obj _ _ st7)
      refine thnF (pg.run _ s7 _ H7 x u _ I7' r7 (step x H7 y7)) fun _ s8 ⟨σ8, H8, I8, hw8, q8⟩ => ?_
      refine thnF (pt.run _ s8 σ8 H8 _ I8 q8) fun b s9 ⟨H9, I9, q9⟩ => ?_
      -- the turn's end
      have fin : ∀ {s' : Shared} {H' : Hp}, Inv (X.blk s3 H3 scope ce fp) ([] ++ pinsAt fp s7.heap) σ8 H' s' → Nx H' → ∃ m, m < n ∧ ∃ i H', Inv (X.blk s3 H3 scope ce fp) [] (wipe σ (own.map (·.2))) H' s' ∧ tn i s'.heap ∧ (∀ b ∈ fp, H' b = none) ∧ W i m H' := fun {s' H'} I' nx => by
        obtain ⟨m', hm, w'⟩ := hNx H' nx
        have pin' : ∀ b ∈ fp, ∀ o, s7.heap.get? b = some o → s'.heap.get? b = some o ∧ H' b = none := fun b hb o e =>
          let z := I'.pin (b, o) (List.mem_append_right _ (List.mem_append_right _ (mem_pinsAt hb e)))
          ⟨z.1, z.2.1⟩
        have hl : (wipe σ (own.map (·.2))).length = σ8.length := by rw [← hw8, wipe_length]
        refine ⟨m', hm, i + 1, H', (I'.unpinned (pins := [])).weak hl (fun j v e => ?_), T.keep _ _ _ st7 fun b hb o e => (pin' b hb o e).1, fun b hb => ?_, w'⟩
        · rw [← hw8] at e
          exact (wipe_some e).1
        · obtain ⟨o, e, _⟩ := T.obj _ _ st7 b hb
          exact (pin' b hb o e).2
      cases b with
      | false =>
        simp only [Bool.false_eq_true, if_false] at q9 ⊢
        exact fin I9 q9
      | true =>
        simp only [if_true] at q9 ⊢
        refine thnF (pk.run _ s9 σ8 H9 _ I9 q9) fun z s10 ⟨yk, H10, I10, r10, q10⟩ => ?_
        refine thnF (pe.run _ s10 σ8 H10 _ I10 q10) fun z2 s11 ⟨yv, H11, I11, r11, bb, es, ks, k, ek, hD11, hks, hz11, hb, nx⟩ => ?_
        subst ek
        obtain rfl : z = Value.ref bb := r10
        exact n_dictSet (X := X.blk s3 H3 scope ce fp) hun I11 hD11 hks hb hz11 fun s12 I12 => fin I12 nx
  exact codeAny_compStart_dict loop (T.self X.A 0 _ _ _ st4 loop)
/-- as a value -/
theorem pe_dcn {kx vx tg iter : Expr} {ifs : List Expr} {scope : Scope} {own : List (Str × Nat)} {pos : Pos} {wi : TI} {g : TG} {tt : TT} {tk tv : TE} (hun : X.A.units + 9 < cLine) (hc : X.calm = true) (hN : X.N.Nodup) (hi : PI X tg iter wi) (ok : BlkOk X.N X.env.scope scope own)
    (hg : ∀ (s : Shared) (H : Hp) (C : Addr) (cl : List (Str × Addr)) (fp : List Addr), PG (X.blk s H scope (compEnvC scope cl C X.env) fp) tg g) (ht : ∀ (s : Shared) (H : Hp) (C : Addr) (cl : List (Str × Addr)) (fp : List Addr), PTs (X.blk s H scope (compEnvC scope cl C X.env) fp) ifs tt)
    (hk : ∀ (s : Shared) (H : Hp) (C : Addr) (cl : List (Str × Addr)) (fp : List Addr), PE (X.blk s H scope (compEnvC scope cl C X.env) fp) kx tk)
    (he : ∀ (s : Shared) (H : Hp) (C : Addr) (cl : List (Str × Addr)) (fp : List Addr), PE (X.blk s H scope (compEnvC scope cl C X.env) fp) vx tv) (hs : ∀ x, foldedSetIterable iter X.env x = pure x := by intro _; rfl) :
    PE X (.DictComp kx vx [⟨tg, iter, ifs, 0⟩] scope pos) (tDcn E X.prog X.w X.K wi g tt tk tv (own.map (·.2))) := by
  refine ⟨fun pins s σ H Q I h => ?_⟩
  rw [arm_eval_DictComp]
  refine dcn_core hun hc hN I hi ok hg ht hk he hs h fun D C s' m H' I' q hn f => ⟨m, hn, fun h'' sb => ?_⟩
  obtain ⟨f0, f1, f2, f3, f4, f5⟩ := f
  exact ⟨.ref D, H', I'.turned (t' := s'.toks) (fun b o hb e => (sb.2 b hb).trans e) f0 f1 f3 f4 f5, rfl, q⟩
end
end L2
namespace DL
open PySem PySem.Spec L2 QL
/-! what it holds: the keys so far -/
section
variable {α β : Type} [DecidableEq α] {E : KeyEnc α} {Z : Hd} {Γ : En}
def AccN (E : KeyEnc α) (P : Program) (w : World) (K : PySem.W.Frag) (Z : Hd) (σ : St) (Γ : En) (Dl : Addr) (H1 : Hp) (ks : List α) (H : Hp) : Prop :=
  OkS K (fun b => Z b ∨ b = Dl) σ Γ H ∧ Keep (minus Z σ Γ H1) (minus (fun b => Z b ∨ b = Dl) σ Γ H) ∧ (∀ b o, H1 b = some o → ∃ o', H b = some o') ∧ (∀ b, Z b → H b = H1 b) ∧ ∃ es, H Dl = some (nD P w Dl es) ∧ KsA E K (minus (fun b => Z b ∨ b = Dl) σ Γ H) ks es
variable {P : Program} {w : World} {K : PySem.W.Frag} {σ σ2 : St} {Γ2 : En} {vs : List Nat} {Dl b : Addr} {H1 H2 H3 : Hp} {ks : List α} {k : α} {y : V}
theorem AccN.start (k : OkS K Z σ Γ H1) (hD : H1 Dl = none) : AccN E P w K Z σ Γ Dl H1 [] (upd H1 Dl (nD P w Dl [])) := by
  obtain ⟨k1, e⟩ := Nx.hide (ob := nD P w Dl []) k hD rfl rfl
  refine ⟨k1, by rw [e]; exact Keep.refl _, fun b o h => ⟨o, by rw [upd_ne (ne_of_none h hD)]; exact h⟩, fun b z => ?_, [], upd_same, .nil⟩
  obtain ⟨o, h, _⟩ := k.zo b z
  rw [upd_ne (ne_of_none h hD)]
theorem AccN.nx (a : AccN E P w K Z σ Γ Dl H1 ks H2) (n : Nx K (fun b => Z b ∨ b = Dl) σ Γ H2 H3) : AccN E P w K Z σ Γ Dl H1 ks H3 := by
  obtain ⟨k, kp, fr, zs, acc, h1, h2⟩ := a
  refine ⟨n.ok, kp.trans n.kp, fun b o e => ?_, fun b z => (n.zs b (.inl z)).trans (zs b z), acc, (n.zs Dl (.inr rfl)).trans h1, h2.k n.kp.tk⟩
  obtain ⟨o', e'⟩ := fr b o e
  exact n.fr b o' e'
theorem AccN.app (a : AccN E P w K Z σ Γ Dl H1 ks H2) (hd : Dn K (minus (fun b => Z b ∨ b = Dl) σ Γ H2) (E.e k) (.ref b)) (hz : ks.length < 100000) (hD : H1 Dl = none) (k1 : OkS K Z σ Γ H1) : ∃ es, H2 Dl = some (nD P w Dl es) ∧ KsA E K H2 ks es ∧ es.length < 100000 ∧ AccN E P w K Z σ Γ Dl H1 (putN ks k) (upd H2 Dl (nD P w Dl (putE es (toNK (E.e k)) b))) := by
  obtain ⟨k', kp, fr, zs, acc, h1, h2⟩ := a
  refine ⟨acc, h1, h2.k minus_keep.tk, by rw [← h2.len]; exact hz, ?_⟩
  obtain ⟨k2, e⟩ := OkS.hid (ob := nD P w Dl (putE acc (toNK (E.e k)) b)) k' (.inr rfl : (fun b => Z b ∨ b = Dl) Dl) rfl rfl
  refine ⟨k2, by rw [e]; exact kp, fun b o h => ?_, fun b z => ?_, _, upd_same, by rw [e]; exact h2.put hd⟩
  · by_cases hb : b = Dl
    · exact ⟨_, by rw [hb, upd_same]⟩
    · rw [upd_ne hb]
      exact fr b o h
  · obtain ⟨o, h, _⟩ := k1.zo b z
    rw [upd_ne (ne_of_none h hD)]
    exact zs b z
theorem AccN.fin (a : AccN E P w K Z σ Γ Dl H1 ks H2) (hD : H1 Dl = none) (k1 : OkS K Z σ Γ H1) : Nx K Z σ Γ H1 H2 ∧ ∃ ob, H2 Dl = some ob ∧ (nC E P w K ks).on Dl ob H2 := by
  obtain ⟨k, kp, fr, zs, acc, h1, h2⟩ := a
  obtain ⟨k2, kp2⟩ := k.show h1 fun z => k1.fresh hD (.inl z)
  exact ⟨⟨k2, kp.trans kp2, fr, zs⟩, _, h1, acc, rfl, h2.k minus_keep.tk⟩
end
section
variable {X : Cx} {Γ : En} {kx vx tg iter : Expr} {ifs : List Expr} {scope : Scope} {pos : Pos} {g : TG} {js : List Nat} {S : D → En → Option En} {α β : Type} [DecidableEq α] {E : KeyEnc α}
def putAll (f : β → α) (xs : List β) : List α := xs.foldl (fun ks x => putN ks (f x)) []
theorem putAll_take {xs : List β} {i : Nat} {x : β} (f : β → α) (h : xs[i]? = some x) : putAll f (xs.take (i + 1)) = putN (putAll f (xs.take i)) (f x) := by
  unfold putAll
  rw [List.take_add_one, h, List.foldl_append]
  rfl
theorem putN_len (ks : List α) (k : α) : (putN ks k).length ≤ ks.length + 1 := by
  unfold putN
  split
  · omega
  · rw [List.length_append]
    exact Nat.le_refl _
theorem putAll_len (f : β → α) (xs : List β) (ks : List α) : (xs.foldl (fun ks x => putN ks (f x)) ks).length ≤ ks.length + xs.length := by
  induction xs generalizing ks with
  | nil => exact Nat.le_refl _
  | cons x xs ih =>
    have := ih (putN ks (f x))
    have := putN_len ks (f x)
    simp only [List.foldl_cons, List.length_cons]
    omega
theorem mem_putN {ks : List α} {k x : α} : x ∈ putN ks k ↔ x ∈ ks ∨ x = k := by
  unfold putN
  split
  · rename_i h
    constructor
    · exact .inl
    · rintro (z | z)
      · exact z
      · rw [z]; exact h
  · simp
theorem mem_putAll {f : β → α} {xs : List β} {ks : List α} {x : α} : x ∈ xs.foldl (fun ks x => putN ks (f x)) ks ↔ x ∈ ks ∨ ∃ y ∈ xs, f y = x := by
  induction xs generalizing ks with
  | nil => simp
  | cons y xs ih =>
    rw [List.foldl_cons, ih, mem_putN]
    simp only [List.mem_cons, exists_eq_or_imp]
    constructor
    · rintro ((z | z) | z)
      · exact .inl z
      · exact .inr (.inl z.symm)
      · exact .inr (.inr z)
    · rintro (z | z | z)
      · exact .inl (.inl z)
      · exact .inl (.inr z.symm)
      · exact .inr z
theorem dcn_sem {xs : List β} {enc : β → D} {f : β → α} {dv : β → D} {Γe : β → En} {σ : St} {H : Hp} {Q : VK} {vs : List Nat} (hT : Tg X.K g js S) (hj : ∀ i ∈ js, i ∈ vs) (hu : ∀ i ∈ vs, ∀ s, Γ[i]? = some s → s = .u) (hS : ∀ x ∈ xs, S (enc x) Γ = some (Γe x)) (hz : xs.length ≤ 90000)
    (q : tF X.K Γ (· = nC E X.prog X.w X.K (putAll f xs)) σ H Q) : tDcn E X.prog X.w X.K (tI X.K Γ (xs.map enc)) g (tAnyT xs fun x => tT X.K (Γe x) true) (tAny xs (fun _ => True) fun x => tR X.K (Γe x) (.d (E.e (f x)))) (tAny xs (fun _ => True) fun x => tR X.K (Γe x) (.d (dv x))) vs σ H Q := by
  obtain ⟨Z, k, q⟩ := q
  refine ⟨Z, k, fun J H1 G Y n w hG hY Dl hD => ?_⟩
  have wk : Walk J xs.length G Y := by simpa using w
  refine lc_it2 wk (fun i H2 => AccN E X.prog X.w X.K Z σ Γ Dl H1 (putAll f (xs.take i)) H2) (AccN.start n.ok hD) (fun i H2 _ p => hG H2 (p.2.1.trans minus_keep)) (fun i x H2 H3 hi p y => ?_) (fun H2 p => ?_)
  · obtain ⟨ext, d, hd, hdn⟩ := hY i H2 x H3 (by simpa using hi) (p.2.1.trans minus_keep) y
    obtain ⟨xe, hx, rfl⟩ : ∃ xe, xs[i]? = some xe ∧ enc xe = d := by
      rw [List.getElem?_map] at hd
      exact Option.map_eq_some_iff.mp hd
    have hmem : xe ∈ xs := List.mem_of_getElem? hx
    have n3 := ext_nx p.1 ext
    have p3 := p.nx n3
    refine turn_in hT hj hu (hS xe hmem) p3.1 hdn fun σ2 wq S2 k2 => ⟨wq, xe, hmem, _, k2, fun H4 n4 => ?_⟩
    have p4 := p3.nx (S2.nx n4)
    have hlt : i < xs.length := (List.getElem?_eq_some_iff.mp hx).1
    rw [putAll_take f hx]
    show tAny xs (fun _ => True) (fun x => tR X.K (Γe x) (.d (E.e (f x)))) σ2 H4 _
    refine ⟨xe, hmem, trivial, _, n4.ok, fun y H5 n5 r5 => ⟨xe, hmem, trivial, _, n5.ok, fun z H6 n6 r6 => ?_⟩⟩
    obtain ⟨bb, ey⟩ := ekey r5
    subst ey
    have r6' : Dn X.K (minus (fun b => Z b ∨ b = Dl) σ Γ H6) (E.e (f xe)) (.ref bb) := by
      rw [← S2.minus]
      exact Dn.k r5 n6.kp.tk
    obtain ⟨es, a1, a2, a3, a4⟩ := (((p4.nx (S2.nx n5)).nx (S2.nx n6))).app r6' (Nat.lt_of_le_of_lt (putAll_len f _ []) (by
      rw [List.length_take]
      simp only [List.length_nil]
      omega)) hD n.ok
    exact ⟨bb, es, _, _, rfl, a1, a2, a3, Dn.k r6' minus_keep.tk, a4⟩
  · rw [List.take_length] at p
    obtain ⟨n2, ob, h1, h2⟩ := p.fin hD n.ok
    exact q _ Dl ob H2 rfl (n.trans n2) (n.free hD) h1 h2
/-- {k: v for target in iter} -/
theorem je_dcn {xs : List β} {enc : β → D} {f : β → α} {dv : β → D} {Γe : β → En} (own : List (Str × Nat)) (hun : X.A.units + 9 < cLine) (hc : X.calm = true) (hN : X.N.Nodup) (hi : PI X tg iter (tI X.K Γ (xs.map enc))) (ok : BlkOk X.N X.env.scope scope own) (hT : Tg X.K g js S) (hj : ∀ i ∈ js, i ∈ own.map (·.2)) (hu : (own.all fun p => isU Γ[p.2]?) = true)
    (hS : ∀ x ∈ xs, S (enc x) Γ = some (Γe x)) (hz : xs.length ≤ 90000)
    (hg : ∀ (s : Shared) (H : Hp) (C : Addr) (cl : List (Str × Addr)) (fp : List Addr), PG (X.blk s H scope (compEnvC scope cl C X.env) fp) tg g)
    (hk : ∀ x ∈ xs, ∀ (s : Shared) (H : Hp) (C : Addr) (cl : List (Str × Addr)) (fp : List Addr), PE (X.blk s H scope (compEnvC scope cl C X.env) fp) kx (tR X.K (Γe x) (.d (E.e (f x)))))
    (he : ∀ x ∈ xs, ∀ (s : Shared) (H : Hp) (C : Addr) (cl : List (Str × Addr)) (fp : List Addr), PE (X.blk s H scope (compEnvC scope cl C X.env) fp) vx (tR X.K (Γe x) (.d (dv x)))) (hs : ∀ x, foldedSetIterable iter X.env x = pure x := by intro _; rfl) :
    PE X (.DictComp kx vx [⟨tg, iter, [], 0⟩] scope pos) (tF X.K Γ (· = nC E X.prog X.w X.K (putAll f xs))) :=
  pe_imp (pe_dcn hun hc hN hi ok hg (fun s H C cl fp => pts_any fun x hx => jts_nil) (fun s H C cl fp => pe_any fun x hx _ => hk x hx s H C cl fp) (fun s H C cl fp => pe_any fun x hx _ => he x hx s H C cl fp) hs) fun σ H Q q => dcn_sem hT hj (hu_of_own hu) hS hz q
end
end DL
end

section
set_option Elab.async false
set_option linter.all false
set_option maxRecDepth 100000
set_option maxHeartbeats 4000000
/-! G0: an object of three fields that stays: a clock, a list of dicts (keys: nested tuples), a list of data. -/
namespace DL
open PySem PySem.Spec L2 QL
section
variable {α : Type} [DecidableEq α] (E : KeyEnc α)
/-- a list of dicts -/
def LqOn (P : Program) (w : World) (K : PySem.W.Frag) (lv : List (List α)) (L : Addr) (H : Hp) : Prop := ∃ vs, H L = some (.lst vs) ∧ Paired (fun ks v => (nP E P w K ks).phi H v) lv vs
theorem LqOn.k {P : Program} {w : World} {K : PySem.W.Frag} {lv : List (List α)} {L : Addr} {H H' : Hp} (h : LqOn E P w K lv L H) (k : Keep H H') : LqOn E P w K lv L H' := by
  obtain ⟨vs, e, h⟩ := h
  exact ⟨vs, k.obj _ _ e rfl, Paired.mapP h fun ks v z => (nP E P w K ks).mono _ _ _ k z⟩
def plq (P : Program) (w : World) (K : PySem.W.Frag) (lv : List (List α)) : Ps := ⟨fun H v => ∃ L, v = .ref L ∧ LqOn E P w K lv L H, fun _ _ _ k ⟨L, e, h⟩ => ⟨L, e, h.k E k⟩⟩
/-- the fields -/
def gFs (vc : V) (L Pa : Addr) : List (Str × V) := [("clock", vc), ("levels", .ref L), ("pairs", .ref Pa)]
def GOn (P : Program) (w : World) (K : PySem.W.Frag) (C : Addr) (c : D) (lv : List (List α)) (ps : List D) (L : Addr) (H : Hp) (v : V) : Prop :=
  ∃ a dx vc Pa vs, v = .ref a ∧ H a = some (.ins C dx (gFs vc L Pa)) ∧ Pa ≠ L ∧ Dn K H c vc ∧ LqOn E P w K lv L H ∧ H Pa = some (.lst vs) ∧ Dns K H ps vs
def gP (P : Program) (w : World) (K : PySem.W.Frag) (C : Addr) (c : D) (lv : List (List α)) (ps : List D) (L : Addr) : Ps :=
  ⟨fun H v => GOn E P w K C c lv ps L H v, fun _ _ _ k ⟨a, dx, vc, Pa, vs, e, h1, h2, h3, h4, h5, h6⟩ => ⟨a, dx, vc, Pa, vs, e, k.obj _ _ h1 rfl, h2, h3.k k.tk, h4.k E k, k.obj _ _ h5 rfl, h6.k k.tk⟩⟩
end
/-- what the class must have -/
structure GK (K : PySem.W.Frag) (C : Addr) : Prop where
  cls : Cls K C
  clock : NoAttr K C "clock"
  levels : NoAttr K C "levels"
  pairs : NoAttr K C "pairs"
section
variable {α : Type} [DecidableEq α] {E : KeyEnc α} {X : Cx} {Γ : En} {o e : Expr} {es : List Expr} {pos p apos : Pos} {C L : Addr} {c : D} {lv : List (List α)} {ps : List D}
theorem je_clock (G : GK X.K C) (he : PE X o (tR X.K Γ (.p (gP E X.prog X.w X.K C c lv ps L)))) (hb : attributeBase o "clock" X.env (eval o X.env) = eval o X.env := by rfl) : PE X (.Attribute o "clock" pos) (tR X.K Γ (.d c)) :=
  pe_imp (pe_fld he hb) fun σ H Q ⟨Z, k, q⟩ => ⟨Z, k, fun v H' n ⟨a, dx, vc, Pa, vs, e1, h1, h2, h3, h4, h5, h6⟩ => ⟨a, C, dx, _, vc, e1, (minus_some h1).1, G.cls, G.clock, rfl, q vc H' n h3⟩⟩
theorem je_levels (G : GK X.K C) (he : PE X o (tR X.K Γ (.p (gP E X.prog X.w X.K C c lv ps L)))) (hb : attributeBase o "levels" X.env (eval o X.env) = eval o X.env := by rfl) : PE X (.Attribute o "levels" pos) (tR X.K Γ (.p (plq E X.prog X.w X.K lv))) :=
  pe_imp (pe_fld he hb) fun σ H Q ⟨Z, k, q⟩ => ⟨Z, k, fun v H' n ⟨a, dx, vc, Pa, vs, e1, h1, h2, h3, h4, h5, h6⟩ => ⟨a, C, dx, _, .ref L, e1, (minus_some h1).1, G.cls, G.levels, rfl, q _ H' n ⟨L, rfl, h4⟩⟩⟩
theorem je_pairs (G : GK X.K C) (he : PE X o (tR X.K Γ (.p (gP E X.prog X.w X.K C c lv ps L)))) (hb : attributeBase o "pairs" X.env (eval o X.env) = eval o X.env := by rfl) : PE X (.Attribute o "pairs" pos) (tR X.K Γ (.p (plt X.K ps))) :=
  pe_imp (pe_fld he hb) fun σ H Q ⟨Z, k, q⟩ => ⟨Z, k, fun v H' n ⟨a, dx, vc, Pa, vs, e1, h1, h2, h3, h4, h5, h6⟩ => ⟨a, C, dx, _, .ref Pa, e1, (minus_some h1).1, G.cls, G.pairs, rfl, q _ H' n ⟨Pa, vs, rfl, h5, h6⟩⟩⟩
/-- len(levels) -/
theorem LqOn.len {P : Program} {w : World} {K : PySem.W.Frag} {H : Hp} (h : LqOn E P w K lv L H) : ∃ vs, H L = some (.lst vs) ∧ vs.length = lv.length := by
  obtain ⟨vs, e, h⟩ := h
  exact ⟨vs, e, (Paired.length h).symm⟩
theorem je_lenQ (hm : X.mg "len" = none) (ha : PE X e (tR X.K Γ (.p (plq E X.prog X.w X.K lv)))) (hg : Gl X "len" := by rfl) (he : starEach [e] X.env = (false, eval e X.env) :: starEach [] X.env := by rfl) : PE X (.Call (.Name "len" p) [e] [] pos) (tR X.K Γ (.d (.i lv.length))) :=
  je_callB call_len_seq (fun B H vs Q kb tk h q => by
    obtain ⟨v, r, e, ⟨L, e1, h1⟩, h3⟩ := h
    have h3 : r = [] := h3
    subst h3
    subst e1
    obtain ⟨ws, h2, h4⟩ := h1.len
    refine ⟨L, ws, e, .inl (kb.seqL (SqL.of h2)), ?_⟩
    rw [h4]
    exact q _ H (Keep.refl H) rfl) hm PySem.boot_len (ja_cons ha ja_nil he) hg (by decide) (by decide) he
theorem Paired.at_some {β γ : Type} {R : β → γ → Prop} {xs : List β} {ys : List γ} (h : Paired R xs ys) {i : Nat} {x : β} (hx : xs[i]? = some x) : ∃ y, ys[i]? = some y ∧ R x y := by
  induction h generalizing i with
  | nil => simp at hx
  | cons r t ih =>
    cases i with
    | zero =>
      simp only [List.getElem?_cons_zero, Option.some.injEq] at hx
      subst hx
      exact ⟨_, rfl, r⟩
    | succ i =>
      simp only [List.getElem?_cons_succ] at hx ⊢
      exact ih hx
/-- levels[i] -/
theorem je_ixQ {a b : Expr} {i : Nat} {ks : List α} (ha : PE X a (tR X.K Γ (.p (plq E X.prog X.w X.K lv)))) (hb : PE X b (tR X.K Γ (.d (.i (i : Nat))))) (h : lv[i]? = some ks) (hs : PlainIx b := by exact fun _ _ => rfl) : PE X (.Subscript a b pos) (tR X.K Γ (.p (nP E X.prog X.w X.K ks))) :=
  pe_imp (pe_ix ix_list ha hb hs) fun σ H Q ⟨Z, k, q⟩ => ⟨Z, k, fun v1 H1 n1 ⟨L, e1, vs, h1, h2⟩ => ⟨Z, n1.ok, fun v2 H2 n2 r2 => by
    obtain ⟨v, h3, h4⟩ := Paired.at_some h2 h
    have n := n1.trans n2
    refine ⟨L, vs, (i : Int), v, e1, r2, SqL.of (minus_keep.obj _ _ (n2.kp.obj _ _ h1 rfl) rfl), atI_nat h3, q v H2 n ((nP E X.prog X.w X.K ks).mono _ _ _ n2.kp h4)⟩⟩⟩
/-- the object's methods -/
theorem GOn.ins {P : Program} {w : World} {K : PySem.W.Frag} {H : Hp} {v : V} (h : GOn E P w K C c lv ps L H v) : ∃ a dx vc Pa, v = .ref a ∧ H a = some (.ins C dx (gFs vc L Pa)) := by
  obtain ⟨a, dx, vc, Pa, vs, e1, h1, _⟩ := h
  exact ⟨a, dx, vc, Pa, e1, h1⟩
section
variable {k : Nat} {f : Addr} {fd : FuncData} {pr : List Str} {md : Pm} {x m : Str} {ss : List Sl} {d : D} {pl : Sem Bool}
def NoFld (m : Str) : Prop := (m == ("clock" : Str)) = false ∧ (m == ("levels" : Str)) = false ∧ (m == ("pairs" : Str)) = false
theorem NoFld.get {vc : V} {L Pa : Addr} (h : NoFld m) : (gFs vc L Pa).lookup m = none := by
  obtain ⟨h1, h2, h3⟩ := h
  simp only [gFs, List.lookup, h1, h2, h3]
/-- o.m(e, ..): data comes back -/
theorem je_meth (i : md.ix) (G : GK X.K C) (hm : Meth X.K C m f) (F : FnOk X.prog X.w X.K X.mg X.base CX0 k f fd pr (spP X.K md)) (hr : Room k X.A) (hb : Binds X.K fd pr []) (ho : PE X o (tR X.K Γ (.p (gP E X.prog X.w X.K C c lv ps L)))) (ha : PA X (e :: es) (tA X.K Γ ss)) (hA : md.A i = .p (gP E X.prog X.w X.K C c lv ps L) :: ss) (h0 : md.G i) (h1 : ∀ r, md.R i r → r = .d d)
    (hn : NoFld m := by exact ⟨by decide, by decide, by decide⟩) (hst : starEach (e :: es) X.env = (false, eval e X.env) :: starEach es X.env := by rfl) (hpl : (backTo pos (starEach es X.env)).any (·.1) = false := by rfl)
    (ht : eval (.Call (.Attribute o m apos) (e :: es) [] pos) X.env = (do
      let ov ← eval o X.env
      standAt apos.atName
      let (f, first) ← holding [ov] (getMethod ov m pl)
      callWith pos f first (backTo pos (starEach (e :: es) X.env)) (backToKw pos (keywordEach [] X.env))) := by rfl) : PE X (.Call (.Attribute o m apos) (e :: es) [] pos) (tR X.K Γ (.d d)) :=
  pe_imp (pe_meth (dvs := []) ho G.cls hm F hr hb .nil pass0 ha hst hpl ht) fun σ H Q ⟨Z, k, q⟩ => ⟨Z, k, fun v1 H1 n1 r1 => by
    obtain ⟨a, dx, vc, Pa, e1, h2⟩ := GOn.ins r1
    refine ⟨a, dx, _, e1, (minus_some h2).1, hn.get, Z, n1.ok, fun vs H2 n2 r2 => ?_⟩
    show spP X.K md (v1 :: (vs ++ [])) H2 Q E0
    rw [List.append_nil]
    refine ⟨i, h0, fun P hP => minus_keep.tabG (n2.ok.tb P hP), ?_, fun r v H3 hp kp rv => ?_⟩
    · rw [hA]
      exact ⟨v1, vs, rfl, (gP E X.prog X.w X.K C c lv ps L).mono _ _ _ minus_keep ((gP E X.prog X.w X.K C c lv ps L).mono _ _ _ n2.kp r1), r2.k minus_keep⟩
    · rw [h1 r hp] at rv
      exact q v H3 ((n1.trans n2).trans (Nx.of_keep n2.ok kp)) (Dn.k rv (n2.ok.keep kp).tk)⟩
/-- o.m(): a new cell comes back -/
theorem je_meth0F {PP : Ct → Prop} (i : md.ix) (G : GK X.K C) (hm : Meth X.K C m f) (F : FnOk X.prog X.w X.K X.mg X.base CX0 k f fd pr (spP X.K md)) (hr : Room k X.A) (hb : Binds X.K fd pr []) (ho : PE X o (tR X.K Γ (.p (gP E X.prog X.w X.K C c lv ps L)))) (hA : md.A i = [.p (gP E X.prog X.w X.K C c lv ps L)]) (h0 : md.G i) (h1 : ∀ r, md.R i r → ∃ c, r = .o c ∧ PP c)
    (hn : NoFld m := by exact ⟨by decide, by decide, by decide⟩)
    (ht : eval (.Call (.Attribute o m apos) [] [] pos) X.env = (do
      let ov ← eval o X.env
      standAt apos.atName
      let (f, first) ← holding [ov] (getMethod ov m pl)
      callWith pos f first (backTo pos (starEach [] X.env)) (backToKw pos (keywordEach [] X.env))) := by rfl) : PE X (.Call (.Attribute o m apos) [] [] pos) (tF X.K Γ PP) :=
  pe_imp (pe_meth0 (dvs := []) ho G.cls hm F hr hb .nil pass0 ht) fun σ H Q ⟨Z, k, q⟩ => ⟨Z, k, fun v1 H1 n1 r1 => by
    obtain ⟨a, dx, vc, Pa, e1, h2⟩ := GOn.ins r1
    refine ⟨a, dx, _, e1, (minus_some h2).1, hn.get, ?_⟩
    show spP X.K md [v1] H1 Q E0
    refine ⟨i, h0, fun P hP => minus_keep.tabG (n1.ok.tb P hP), ?_, fun r v H3 hp kp rv => ?_⟩
    · rw [hA]
      exact ⟨v1, [], rfl, (gP E X.prog X.w X.K C c lv ps L).mono _ _ _ minus_keep r1, rfl⟩
    · obtain ⟨cc, e, hP⟩ := h1 r hp
      subst e
      obtain ⟨a', ob, e, fr, ha', on⟩ := rv
      subst e
      exact q cc a' ob H3 hP (n1.trans (Nx.of_keep n1.ok kp)) (n1.free fr) ha' on⟩
end
end
end DL
end

section
set_option Elab.async false
set_option linter.all false
set_option maxRecDepth 100000
set_option maxHeartbeats 8000000
/-! G1: is_good, good_deed, next_level. -/
namespace LC
/-- a deed that is good, whoever of it is missed -/
def goodB (c : Clk) (lv : List (List (Nat × List Nat))) (fo : List (Nat × List Nat)) (p : Nat) (s d : List Nat) (m : List Nat) : Bool :=
  decide (lv.length < m.length) || (decide (notFit c (doneS s (d.filter fun w => !decide (w ∈ m))) p = []) && decide (((p + 1) % c.per, doneS s (d.filter fun w => !decide (w ∈ m))) ∈ if m = [] then fo else lv.getD (lv.length - m.length) []))
def isGood (c : Clk) (lv : List (List (Nat × List Nat))) (fo : List (Nat × List Nat)) (p : Nat) (s d : List Nat) : Bool := (subs d).all (goodB c lv fo p s d)
end LC
namespace LW
open PySem PySem.Spec L2 DL LC QL
def eK (x : Nat × List Nat) : D := .t [eN x.1, eT x.2]
theorem nk_T (l : List Nat) : toNKs (nums (nn l)) = l.map fun (n : Nat) => NestedKey.num (n : Int) := by
  rw [nums_nn]
  induction l with
  | nil => rfl
  | cons x l ih =>
    rw [List.map_cons, List.map_cons, ← ih]
    rfl
theorem num_inj {l l' : List Nat} (h : (l.map fun (n : Nat) => NestedKey.num (n : Int)) = l'.map fun (n : Nat) => NestedKey.num (n : Int)) : l = l' := by
  induction l generalizing l' with
  | nil =>
    cases l' with
    | nil => rfl
    | cons _ _ => cases h
  | cons x l ih =>
    cases l' with
    | nil => cases h
    | cons y l' =>
      rw [List.map_cons, List.map_cons] at h
      injection h with h1 h2
      injection h1 with h1
      rw [Int.ofNat_inj.mp h1, ih h2]
theorem dep_nums : ∀ l : List Nat, NestedKey.depthAll (l.map fun (n : Nat) => NestedKey.num (n : Int)) ≤ 1
  | [] => by simp [NestedKey.depthAll]
  | x :: l => by
    have := dep_nums l
    simp only [List.map_cons, NestedKey.depthAll, NestedKey.depth]
    omega
theorem pln_nums : ∀ l : List Int, plainDs (nums l) = true
  | [] => by simp [nums, plainDs]
  | x :: l => by
    have := pln_nums l
    unfold nums at this ⊢
    simp only [List.map_cons, plainDs, plainD, this, Bool.and_self]
def kE : KeyEnc (Nat × List Nat) where
  e := eK
  tup := fun k => ⟨_, rfl⟩
  inj := fun k k' h => by
    have h : NestedKey.tup [.num (k.1 : Int), .tup (toNKs (nums (nn k.2)))] = NestedKey.tup [.num (k'.1 : Int), .tup (toNKs (nums (nn k'.2)))] := h
    rw [nk_T, nk_T] at h
    injection h with h
    injection h with h1 h2
    injection h1 with h1
    injection h2 with h2 _
    injection h2 with h2
    exact Prod.ext (Int.ofNat_inj.mp h1) (num_inj h2)
  dep := fun k => by
    show NestedKey.depth (NestedKey.tup [.num (k.1 : Int), .tup (toNKs (nums (nn k.2)))]) ≤ 8
    rw [nk_T]
    have := dep_nums k.2
    simp only [NestedKey.depth, NestedKey.depthAll]
    omega
  pln := fun k => by
    show plainD (.t [eN k.1, .t (nums (nn k.2))]) = true
    simp only [plainD, plainDs, eN, pln_nums, Bool.and_true]
abbrev gameBody : List Stmt := match topS 56 with
  | .ClassDef _ _ _ b _ _ _ _ _ _ _ => b
  | _ => []
abbrev mtS (i : Nat) : Stmt := gameBody.getD i (.Pass ⟨0, 0, 0, 0⟩)
section
variable {P : Program} {w : World} {K : PySem.W.Frag} {mg : Str → Option Value} {base : Heap} {f : Addr} {fd : FuncData} {C L : Addr}
abbrev sIsG : Stmt := mtS 4
abbrev nIsG : List Str := ["self", "pair", "deed", "found", "phase", "standing", "after", "missed", "left", "later", "there", "wheel"]
abbrev psIsG : List Str := ["self", "pair", "deed", "found"]
theorem scIsG : FnScope nIsG psIsG (defScope sIsG) := ⟨rfl, rfl, rfl, by decide +kernel, rfl, by decide +kernel, by decide +kernel⟩
abbrev GI := Clk × List (List (Nat × List Nat)) × List D × Addr × List (Nat × List Nat) × Nat × List Nat × List Nat
def pmIsG (P : Program) (w : World) (K : PySem.W.Frag) (C : Addr) : Pm := ⟨GI, fun (c, lv, ps, L, fo, p, s, d) => [.p (gP kE P w K C (eC c) lv ps L), .d (eK (p, s)), .d (eT d), .p (nP kE P w K fo)], fun (c, lv, ps, L, fo, p, s, d) => Good c ∧ Std c s ∧ d.length ≤ 3, fun (c, lv, ps, L, fo, p, s, d) r => r = .d (.b (isGood c lv fo p s d))⟩
theorem doneS_len (s d : List Nat) : (doneS s d).length = s.length := by
  unfold doneS
  rw [List.length_map, List.length_zipIdx]
theorem ok_isG (B : Blt mg) (G : GK K C) (GS : Df P w K mg base 1 "subsets" ["deed"] (pmSub K)) (GD : Df P w K mg base 1 "done" ["standing", "deed"] pmDone) (GN : Df P w K mg base 3 "not_fitting" ["clock", "standing", "phase"] (pmNotF K)) (F : Fun K "is_good" "Game.is_good" sIsG f fd) : FnOk P w K mg base CX0 4 f fd psIsG (spP K (pmIsG P w K C)) := by
  refine fn_ok F scIsG (fun _ => rfl) (fun _ _ => by simp [pmIsG]) (by decide) fun cdv A outer s H E ⟨c, lv, ps, L, fo, p, st, d⟩ hr ⟨hg, hs, hd3⟩ => ?_
  show PSs _ _ (tS K [.p (gP kE P w K C (eC c) lv ps L), .d (eK (p, st)), .d (eT d), .p (nP kE P w K fo), .u, .u, .u, .u, .u, .u, .u, .u] _)
  have hu := un1 hr
  have hu9 : (A.deeper (PyProof.Rows.envOfC "Game.is_good" (defScope sIsG) s.heap.objs.size f cdv)).units + 9 < cLine := by have := hr.un; omega
  have h0 := hg.per0
  refine js_cons (js_asg (jv 1) (pg_tup rfl (pgs_cons (pg_name (i := 4) scIsG.nd rfl (.inl rfl)) (pgs_cons (pg_name (i := 5) scIsG.nd rfl (.inl rfl)) pgs_nil))) (tg_names [4, 5]) (Γ' := [.p (gP kE P w K C (eC c) lv ps L), .d (eK (p, st)), .d (eT d), .p (nP kE P w K fo), .d (eN p), .d (eT st), .u, .u, .u, .u, .u, .u]) rfl ?_)
  refine js_cons (js_set 6 (d := eN ((p + 1) % c.per)) scIsG.nd (je_is (je_mod (y := (c.per : Int)) (by omega) (je_add (jv 4) je_int) (je_ix (je_clock G (jvp 0)) je_int)) ?_) ?_)
  · show D.i _ = D.i _
    congr 1
  refine js_cons (js_for (ds := (subs d).map eT) (fun i Γ => (∀ j m, j < i → (subs d)[j]? = some m → goodB c lv fo p st d m = true) ∧ ∃ a b e g : Sl, Γ = [.p (gP kE P w K C (eC c) lv ps L), .d (eK (p, st)), .d (eT d), .p (nP kE P w K fo), .d (eN p), .d (eT st), .d (eN ((p + 1) % c.per)), a, b, e, g, .u]) PassesOwn.never rfl (ji_list (je_fp (jcF GS d hr (by decide) (ja_cons (jv 2) ja_nil) hd3 fun r h => ⟨_, h, rfl⟩))) (pg_name scIsG.nd rfl (Or.inr rfl)) (tg_name 7) ⟨fun _ _ h => absurd h (Nat.not_lt_zero _), .u, .u, .u, .u, rfl⟩ (fun i dd Γ' hd hI => ?_) fun Γ' hI => ?_)
  · obtain ⟨hall, a, b, e, g, rfl⟩ := hI
    rw [List.getElem?_map] at hd
    obtain ⟨m, hm, rfl⟩ := Option.map_eq_some_iff.mp hd
    have hml := sub_mem_len m (List.mem_of_getElem? hm)
    have next : goodB c lv fo p st d m = true → ∀ j m', j < i + 1 → (subs d)[j]? = some m' → goodB c lv fo p st d m' = true := fun hgd j m' hj hm' => by
      by_cases e : j = i
      · subst e
        rw [hm] at hm'
        cases hm'
        exact hgd
      · exact hall j m' (by omega) hm'
    have bad : goodB c lv fo p st d m = false → isGood c lv fo p st d = false := fun h => by
      rw [← Bool.not_eq_true]
      intro hh
      have := List.all_eq_true.mp hh m (List.mem_of_getElem? hm)
      rw [h] at this
      cases this
    refine ⟨[.p (gP kE P w K C (eC c) lv ps L), .d (eK (p, st)), .d (eT d), .p (nP kE P w K fo), .d (eN p), .d (eT st), .d (eN ((p + 1) % c.per)), .d (eT m), b, e, g, .u], rfl, ?_⟩
    refine js_cons (js_set 8 (d := .i ((lv.length : Int) - (m.length : Int))) scIsG.nd (je_is (je_sub (je_lenQ B.len (je_levels G (jvp 0))) (je_lenT B.len (jv 7))) (by rw [nn_len])) ?_)
    refine js_cons (js_if (jt_lt (jv 8) je_int) (fun z => js_one (js_cont ?_)) fun z => js_nil ?_)
    · have z := of_decide_eq_true z
      refine ⟨next ?_, .d (eT m), _, e, g, rfl⟩
      unfold goodB
      rw [decide_eq_true (show lv.length < m.length by omega), Bool.true_or]
    have z := of_decide_eq_false z
    have hle : ¬ lv.length < m.length := by omega
    generalize hlat : doneS st (d.filter fun w => !decide (w ∈ m)) = later
    have hll : later.length = c.eds.length := by rw [← hlat, doneS_len]; exact hs.len
    have egd : goodB c lv fo p st d m = (decide (notFit c later p = []) && decide (((p + 1) % c.per, later) ∈ if m = [] then fo else lv.getD (lv.length - m.length) [])) := by
      unfold goodB
      rw [decide_eq_false hle, Bool.false_or, hlat]
    refine js_cons (js_set 9 (d := eT later) scIsG.nd (jc GD (st, d.filter fun w => !decide (w ∈ m)) hr (by decide) (ja_cons (jv 5) (ja_cons (je_is (je_tupleL B.tuple (je_fp (je_lc (xs := d) (enc := eN) (f := eN) (pb := fun w => !decide (w ∈ m)) (Γe := fun x => [.p (gP kE P w K C (eC c) lv ps L), .d (eK (p, st)), .d (eT d), .p (nP kE P w K fo), .d (eN p), .d (eT st), .d (eN ((p + 1) % c.per)), .d (eT m), .d (.i ((lv.length : Int) - (m.length : Int))), e, g, .d (eN x)]) [("wheel", 11)] rfl scIsG.nd (ji_is (ji_tup (jv 2)) (nums_nn d)) (blkOk_by (N := nIsG) (sc := defScope sIsG) (by decide +kernel)) (tg_name 11) (by decide) rfl (fun x _ => rfl) (by omega) (fun _ _ _ _ _ => pg_name scIsG.nd rfl (Or.inl rfl)) (fun x hx s H C cl fp => jts_one (jt_is (jt_niT (jv 11) (jv 7)) ?_)) (fun x hx hp s H C cl fp => jv 11)))) ?_) ja_nil)) ?_ fun r h => ?_) ?_)
    · rw [show decide (((x : Nat) : Int) ∈ nn m) = decide (x ∈ m) from decide_eq_decide.mpr mem_nn]
    · unfold eT
      rw [nums_nn]
    · have := hs.len
      have := hg.n3
      show st.length ≤ 1000
      omega
    · rw [h, hlat]
    refine js_cons (js_if (jt_tru (je_fp (jcF GN (c, later, p) hr (by decide) (ja_cons (je_clock G (jvp 0)) (ja_cons (jv 9) (ja_cons (jv 4) ja_nil))) ⟨hg, hll⟩ fun r h => ⟨_, h, rfl⟩)) truL_pl) (fun z => js_one (js_ret je_bl ?_)) fun z => js_nil ?_)
    · show Sl.d _ = Sl.d _
      rw [bad]
      rw [egd, decide_eq_false, Bool.false_and]
      intro q
      rw [q] at z
      cases z
    have hnf : notFit c later p = [] := by
      cases q : notFit c later p with
      | nil => rfl
      | cons x y => rw [q] at z; cases z
    refine js_cons (js_setp 10 (q := nP kE P w K (if m = [] then fo else lv.getD (lv.length - m.length) [])) scIsG.nd (je_if (jt_eqT (ns := nn m) (ms := []) hr.units (jv 7) (je_tup (ds := []) ja_nil)) (fun q => ?_) fun q => ?_) ?_)
    · have : m = [] := List.map_eq_nil_iff.mp (of_decide_eq_true q)
      rw [if_pos this]
      exact jvp 3
    · have q : m ≠ [] := fun z => by
        subst z
        cases q
      rw [if_neg q]
      have hmp := List.length_pos_iff.mpr q
      refine je_ixQ (i := lv.length - m.length) (je_levels G (jvp 0)) (je_is (jv 8) ?_) ?_
      · show D.i _ = D.i _
        congr 1
        omega
      · rw [List.getD_eq_getElem?_getD, List.getElem?_eq_getElem (by omega)]
        rfl
    refine js_one (js_if (jt_nni (E := kE) (k := ((p + 1) % c.per, later)) hu9 (je_tup (ds := [eN ((p + 1) % c.per), eT later]) (ja_cons (jv 6) (ja_cons (jv 9) ja_nil))) (jvp 10)) (fun z => js_one (js_ret je_bl ?_)) fun z => js_nil ?_)
    · show Sl.d _ = Sl.d _
      rw [bad]
      rw [egd, Bool.and_eq_false_iff]
      exact .inr (by simpa using z)
    · refine ⟨next ?_, _, _, _, _, rfl⟩
      rw [egd, decide_eq_true hnf, Bool.true_and]
      simpa using z
  · obtain ⟨hall, a, b, e, g, rfl⟩ := hI
    refine js_one (js_ret je_bl ?_)
    show Sl.d _ = Sl.d _
    rw [show isGood c lv fo p st d = true from List.all_eq_true.mpr fun m hm => ?_]
    obtain ⟨j, hj⟩ := List.getElem?_of_mem hm
    exact hall j m (by rw [List.length_map]; exact (List.getElem?_eq_some_iff.mp hj).1) hj
end
end LW
end

section
set_option Elab.async false
set_option linter.all false
set_option maxRecDepth 100000
set_option maxHeartbeats 4000000
/-! D16: a local name = a dict comprehension on its line. -/
namespace L2
open PySem PySem.Spec PyProof.Rows DL QL
section
variable {α : Type} [DecidableEq α] {E : KeyEnc α} {X : Cx}
theorem ps_setDcn {i : Nat} {y : Str} {py : Pos} {kx vx tg iter : Expr} {ifs : List Expr} {scope : Scope} {own : List (Str × Nat)} {pos spos : Pos} {wi : TI} {g : TG} {tt : TT} {tk tv : TE} (hun : X.A.units + 9 < cLine) (hc : X.calm = true) (hN : X.N.Nodup) (hy : X.N[i]? = some y) (hyl : X.env.scope.names.lookup y = some .local)
    (hsw : swapsWith (.DictComp kx vx [⟨tg, iter, ifs, 0⟩] scope pos) (some (.Name y py)) spos.line X.env = pure true) (hi : PI X tg iter wi) (ok : BlkOk X.N X.env.scope scope own)
    (hg : ∀ (s : Shared) (H : Hp) (C : Addr) (cl : List (Str × Addr)) (fp : List Addr), PG (X.blk s H scope (compEnvC scope cl C X.env) fp) tg g) (ht : ∀ (s : Shared) (H : Hp) (C : Addr) (cl : List (Str × Addr)) (fp : List Addr), PTs (X.blk s H scope (compEnvC scope cl C X.env) fp) ifs tt)
    (hk : ∀ (s : Shared) (H : Hp) (C : Addr) (cl : List (Str × Addr)) (fp : List Addr), PE (X.blk s H scope (compEnvC scope cl C X.env) fp) kx tk)
    (he : ∀ (s : Shared) (H : Hp) (C : Addr) (cl : List (Str × Addr)) (fp : List Addr), PE (X.blk s H scope (compEnvC scope cl C X.env) fp) vx tv) (hs : ∀ x, foldedSetIterable iter X.env x = pure x := by intro _; rfl) :
    PS X (.Assign [.Name y py] (.DictComp kx vx [⟨tg, iter, ifs, 0⟩] scope pos) spos) (tAsg (tDcn E X.prog X.w X.K wi g tt tk tv (own.map (·.2))) (gName i)) := by
  refine ⟨fun pins s σ H D I h => ?_⟩
  rw [exec_Assign_Name_used _ _ _ _ hsw]
  refine wpAny_bind (wpAny_standAt (wpAny_bind ?_))
  show wpAny _ X.A (do let _ ← comprehension (.DictComp kx vx [⟨tg, iter, ifs, 0⟩] scope pos) scope X.env (firstIterPos [⟨tg, iter, ifs, 0⟩] pos) newDict false (eval iter X.env) (some (assign (.Name y py) X.env))) _ _ s
  have h : tDcn E X.prog X.w X.K wi g tt tk tv (own.map (·.2)) σ H (fun x H1 => gName i x σ H1 D.nx) := h
  refine wpAny_bind (thn (dcn_core (Qf := fun _ s' => SP X pins D .next s') hun hc hN I hi ok hg ht hk he hs h fun L C s' m H' I' q hn f => ?_) fun _ s' hq => wpAny_pure (wpAny_pure hq))
  show wpAny _ _ (assign (.Name y py) X.env (.ref L)) _ _ _
  refine wpAny_assign_Name (store_ok2 (v := V.ref L) I' hN hy (.inl hyl) rfl (fun s2 I2 ⟨a, sb, ha⟩ => ?_) (.inr hyl))
  obtain ⟨f0, f1, f2, f3, f4, f5⟩ := f
  have haC : C ≠ a := by
    rcases ha with z | z
    · rw [z]; exact f1
    · exact fun e => f4 y a z e.symm
  refine ⟨m, hn.sameBut sb haC, fun h3 sb3 => ?_⟩
  exact ⟨_, H', I2.turned (t' := s2.toks) (fun b o hb e => (sb3.2 b hb).trans e) f0 f1 f3 f4 f5, q⟩
theorem sw_trueD {kx vx : Expr} {gs : List Comprehension} {scope : Scope} {pos py : Pos} {y : Str} {l : Nat} {env : Env} (hk : env.scope.kind = .function) (hy : env.scope.names.lookup y = some .local) (hl : (py.line == pos.line) = true)
    (ha : (scope.names.any fun (n, k) => n == y && (k == .local || k == .cell)) = false) : swapsWith (.DictComp kx vx gs scope pos) (some (.Name y py)) l env = pure true := by
  have ky : env.kindOf y = some .local := hy
  have hb : env.blockKind = .function := by unfold Env.blockKind; rw [hk]; rfl
  unfold swapsWith
  simp only [hb, ky, ha, Expr.pos, hl]
  rfl
end
end L2
namespace DL
open PySem PySem.Spec L2 QL
section
variable {X : Cx} {Γ : En} {Ψ : Out → Prop} {x : Str} {p p' : Pos} {kx vx tg iter : Expr} {ifs : List Expr} {scope : Scope} {pos : Pos} {g : TG} {js : List Nat} {S : D → En → Option En} {α β : Type} [DecidableEq α] {E : KeyEnc α}
/-- name = {k: v for target in iter} -/
theorem js_setDcn (i : Nat) {xs : List β} {enc : β → D} {f : β → α} {dv : β → D} {Γe : β → En} (own : List (Str × Nat)) (hun : X.A.units + 9 < cLine) (hc : X.calm = true) (hN : X.N.Nodup) (hy : X.N[i]? = some x) (hyl : X.env.scope.names.lookup x = some .local) (hl : i < Γ.length) (hsw : swapsWith (.DictComp kx vx [⟨tg, iter, [], 0⟩] scope p) (some (.Name x p')) pos.line X.env = pure true)
    (hi : PI X tg iter (tI X.K Γ (xs.map enc))) (ok : BlkOk X.N X.env.scope scope own) (hT : Tg X.K g js S) (hj : ∀ i ∈ js, i ∈ own.map (·.2)) (hu : (own.all fun p => isU Γ[p.2]?) = true)
    (hS : ∀ x ∈ xs, S (enc x) Γ = some (Γe x)) (hz : xs.length ≤ 90000)
    (hg : ∀ (s : Shared) (H : Hp) (C : Addr) (cl : List (Str × Addr)) (fp : List Addr), PG (X.blk s H scope (compEnvC scope cl C X.env) fp) tg g)
    (hk : ∀ x ∈ xs, ∀ (s : Shared) (H : Hp) (C : Addr) (cl : List (Str × Addr)) (fp : List Addr), PE (X.blk s H scope (compEnvC scope cl C X.env) fp) kx (tR X.K (Γe x) (.d (E.e (f x)))))
    (he : ∀ x ∈ xs, ∀ (s : Shared) (H : Hp) (C : Addr) (cl : List (Str × Addr)) (fp : List Addr), PE (X.blk s H scope (compEnvC scope cl C X.env) fp) vx (tR X.K (Γe x) (.d (dv x)))) (h : Ψ (.nx (Γ.set i (.o (nC E X.prog X.w X.K (putAll f xs)))))) (hs : ∀ x, foldedSetIterable iter X.env x = pure x := by intro _; rfl) :
    PS X (.Assign [.Name x p'] (.DictComp kx vx [⟨tg, iter, [], 0⟩] scope p) pos) (tS X.K Γ Ψ) :=
  ps_imp (ps_setDcn (E := E) hun hc hN hy hyl hsw hi ok hg (fun s H C cl fp => pts_any fun x hx => jts_nil) (fun s H C cl fp => pe_any fun x hx _ => hk x hx s H C cl fp) (fun s H C cl fp => pe_any fun x hx _ => he x hx s H C cl fp) hs) fun D σ H q =>
    dcn_sem hT hj (hu_of_own hu) hS hz (tS_setF (P := (· = nC E X.prog X.w X.K (putAll f xs))) hl (fun c hc => by subst hc; exact h) q)
end
end DL
end

section
set_option Elab.async false
set_option linter.all false
set_option maxRecDepth 100000
set_option maxHeartbeats 8000000
/-! G2: good_deed, next_level. -/
namespace LC
abbrev Lvl := List (Nat × List Nat)
def goodsOf (c : Clk) (lv : List Lvl) (fo : Lvl) (x : Nat × List Nat) : List (List Nat) := (deedsAt c x.1 x.2).filter (isGood c lv fo x.1 x.2)
def startL (c : Clk) : Lvl := DL.putAll (fun p => (p, c.eds)) (List.range c.per)
theorem startL_len (c : Clk) : (startL c).length ≤ c.per := by
  have h := DL.putAll_len (fun p => (p, c.eds)) (List.range c.per) []
  rw [List.length_range] at h
  refine Nat.le_trans h ?_
  simp
/-- the levels that next_level's loop may stand at -/
inductive Reach (c : Clk) (lv : List Lvl) (prs : Lvl) : Lvl → Prop where
  | start : Reach c lv prs (startL c)
  | put {ks : Lvl} {x : Nat × List Nat} (h : Reach c lv prs ks) (hx : x ∈ prs) (hn : x ∉ ks) (hg : goodsOf c lv ks x ≠ []) : Reach c lv prs (ks ++ [x])
def LevelOk (c : Clk) (lv : List Lvl) (prs ks : Lvl) : Prop := Reach c lv prs ks ∧ ∀ x ∈ prs, x ∈ ks ∨ goodsOf c lv ks x = []
/-- those not found -/
def unf (prs ks : Lvl) : Nat := (prs.filter fun x => !decide (x ∈ ks)).length
theorem unf_put {prs ks : Lvl} {x : Nat × List Nat} (hx : x ∈ prs) (hn : x ∉ ks) : unf prs (ks ++ [x]) < unf prs ks := by
  unfold unf
  have e : (prs.filter fun y => !decide (y ∈ ks ++ [x])) = (prs.filter fun y => !decide (y ∈ ks)).filter fun y => !decide (y = x) := by
    rw [List.filter_filter]
    congr 1
    funext y
    by_cases h1 : y ∈ ks <;> by_cases h2 : y = x <;> simp [h1, h2]
  rw [e]
  refine List.length_filter_lt_length_iff_exists.mpr ⟨x, List.mem_filter.mpr ⟨hx, by simp [hn]⟩, by simp⟩
theorem reach_len {c : Clk} {lv : List Lvl} {prs ks : Lvl} (h : Reach c lv prs ks) : ks.length + unf prs ks ≤ c.per + prs.length := by
  induction h with
  | start =>
    have h1 := startL_len c
    have h2 : unf prs (startL c) ≤ prs.length := List.length_filter_le _ _
    omega
  | put h hx hn hg ih =>
    have := unf_put hx hn
    rw [List.length_append]
    simp only [List.length_cons, List.length_nil]
    omega
end LC
namespace LW
open PySem PySem.Spec L2 DL LC QL
def goodD (l : List (List Nat)) : D := match l with
  | [] => .non
  | x :: _ => eT x
section
variable {P : Program} {w : World} {K : PySem.W.Frag} {mg : Str → Option Value} {base : Heap} {f : Addr} {fd : FuncData} {C L : Addr}
theorem lays_mem_len (ws : List Nat) : ∀ i, ∀ x ∈ lays ws i, x.length ≤ i
  | 0, x, h => by rw [List.mem_singleton.mp h]; exact Nat.le_refl _
  | i + 1, x, h => by
    rcases List.mem_append.mp (show x ∈ lays ws i ++ lay ws (i + 1) from h) with z | z
    · have := lays_mem_len ws i x z
      omega
    · rw [lay_mem_len ws (i + 1) x z]
      exact Nat.le_refl _
theorem deeds_mem_len {c : Clk} (hg : Good c) {p : Nat} {s : List Nat} : ∀ d ∈ deedsAt c p s, d.length ≤ 3 := fun d hd => by
  have := lays_mem_len _ _ d hd
  have := openW_len hg p s
  omega
theorem deeds_len {c : Clk} (hg : Good c) (p : Nat) (s : List Nat) : (deedsAt c p s).length ≤ 100 := by
  have h3 := openW_len hg p s
  have := lays_size (openW c p s) h3 (min 12 (openW c p s).length) (by omega)
  show (lays _ _).length ≤ 100
  omega
/-! ### good_deed -/
abbrev sGD : Stmt := mtS 3
abbrev nGD : List Str := ["self", "pair", "found", "phase", "standing", "deeds", "good", "deed"]
abbrev psGD : List Str := ["self", "pair", "found"]
theorem scGD : FnScope nGD psGD (defScope sGD) := ⟨rfl, rfl, rfl, by decide +kernel, rfl, by decide +kernel, by decide +kernel⟩
abbrev GJ := Clk × List Lvl × List D × Addr × Lvl × Nat × List Nat
def pmGD (P : Program) (w : World) (K : PySem.W.Frag) (C : Addr) : Pm := ⟨GJ, fun (c, lv, ps, L, fo, p, s) => [.p (gP kE P w K C (eC c) lv ps L), .d (eK (p, s)), .p (nP kE P w K fo)], fun (c, lv, ps, L, fo, p, s) => Good c ∧ Std c s, fun (c, lv, ps, L, fo, p, s) r => r = .d (goodD (goodsOf c lv fo (p, s)))⟩
/-- a method of the class -/
structure MtK (P : Program) (w : World) (K : PySem.W.Frag) (mg : Str → Option Value) (base : Heap) (C : Addr) (k : Nat) (x : Str) (ps : List Str) (m : Pm) : Prop where
  ex : ∃ (f : Addr) (fd : FuncData), FnOk P w K mg base CX0 k f fd ps (spP K m) ∧ Meth K C x f ∧ Binds K fd ps []
theorem ok_gd (B : Blt mg) (G : GK K C) {t12 : Tok} (h12 : mg "MOST_HANDS" = some (.int 12 t12)) (GA : Df P w K mg base 1 "deeds_at" ["clock", "phase", "standing", "hands"] (pmDeeds K)) (GI : MtK P w K mg base C 4 "is_good" psIsG (pmIsG P w K C)) (F : Fun K "good_deed" "Game.good_deed" sGD f fd) : FnOk P w K mg base CX0 5 f fd psGD (spP K (pmGD P w K C)) := by
  refine fn_ok F scGD (fun _ => rfl) (fun _ _ => by simp [pmGD]) (by decide) fun cdv A outer s H E ⟨c, lv, ps, L, fo, p, st⟩ hr ⟨hg, hs⟩ => ?_
  show PSs _ _ (tS K [.p (gP kE P w K C (eC c) lv ps L), .d (eK (p, st)), .p (nP kE P w K fo), .u, .u, .u, .u, .u] _)
  obtain ⟨fm, fdm, FM, hm, hb⟩ := GI.ex
  refine js_cons (js_asg (jv 1) (pg_tup rfl (pgs_cons (pg_name (i := 3) scGD.nd rfl (.inl rfl)) (pgs_cons (pg_name (i := 4) scGD.nd rfl (.inl rfl)) pgs_nil))) (tg_names [3, 4]) (Γ' := [.p (gP kE P w K C (eC c) lv ps L), .d (eK (p, st)), .p (nP kE P w K fo), .d (eN p), .d (eT st), .u, .u, .u]) rfl ?_)
  refine js_cons (js_setF 5 (P := (· = cl K ((deedsAt c p st).map eT))) scGD.nd (jcF GA (c, p, st) hr (by decide) (ja_cons (je_clock G (jvp 0)) (ja_cons (jv 3) (ja_cons (jv 4) (ja_cons (je_globI rfl h12) ja_nil)))) ⟨hg, hs⟩ fun r h => ⟨_, h, rfl⟩) fun cc hc => ?_)
  subst hc
  refine js_freeze 5 rfl (js_cons (js_setLc 6 (xs := deedsAt c p st) (enc := eT) (f := eT) (pb := isGood c lv fo p st) (Γe := fun x => [.p (gP kE P w K C (eC c) lv ps L), .d (eK (p, st)), .p (nP kE P w K fo), .d (eN p), .d (eT st), .p (plt K ((deedsAt c p st).map eT)), .u, .d (eT x)]) [("deed", 7)] rfl scGD.nd rfl rfl (by simp) (sw_true rfl rfl rfl (by decide +kernel)) (ji_list (je_pl (jvp 5))) (blkOk_by (N := nGD) (sc := defScope sGD) (by decide +kernel)) (tg_name 7) (by decide) rfl (fun x _ => rfl) (by have := deeds_len hg p st; omega) (fun _ _ _ _ _ => pg_name scGD.nd rfl (Or.inl rfl))
    (fun x hx s H C' cl' fp => jts_one (jt_val (je_meth (md := pmIsG P w K C) (c, lv, ps, L, fo, p, st, x) G hm FM (hr.mono (by decide)) hb (jvp 0) (ja_cons (jv 1) (ja_cons (jv 7) (ja_cons (jvp 2) ja_nil))) rfl ⟨hg, hs, deeds_mem_len hg x hx⟩ fun r h => h))) (fun x hx _ s H C' cl' fp => jv 7) ?_))
  refine js_freeze 6 rfl (js_one (js_ret (je_if (jt_tru (je_pl (jvp 6)) truL_pl) (fun z => ?_) fun z => ?_) rfl))
  · cases q : goodsOf c lv fo (p, st) with
    | nil =>
      rw [show (deedsAt c p st).filter (isGood c lv fo p st) = [] from q] at z
      cases z
    | cons x l =>
      refine je_ixl (i := 0) (je_pl (jvp 6)) je_int ?_
      rw [show (deedsAt c p st).filter (isGood c lv fo p st) = x :: l from q]
      exact atI_map (i := 0) (l := x :: l) rfl
  · cases q : goodsOf c lv fo (p, st) with
    | nil => exact je_non
    | cons x l =>
      rw [show (deedsAt c p st).filter (isGood c lv fo p st) = x :: l from q] at z
      cases z
/-! ### next_level -/
abbrev sNL : Stmt := mtS 2
abbrev nNL : List Str := ["self", "found", "growing", "pair", "deed", "phase"]
abbrev psNL : List Str := ["self"]
theorem scNL : FnScope nNL psNL (defScope sNL) := ⟨rfl, rfl, rfl, by decide +kernel, rfl, by decide +kernel, by decide +kernel⟩
abbrev GL := Clk × List Lvl × Lvl × Addr
def pmNL (P : Program) (w : World) (K : PySem.W.Frag) (C : Addr) : Pm := ⟨GL, fun (c, lv, prs, L) => [.p (gP kE P w K C (eC c) lv (prs.map eK) L)], fun (c, lv, prs, L) => Good c ∧ prs.length ≤ 1000 ∧ ∀ x ∈ prs, Std c x.2, fun (c, lv, prs, L) r => ∃ ks, LevelOk c lv prs ks ∧ r = .o (nC kE P w K ks)⟩
theorem good_isNon (l : List (List Nat)) : (goodD l).isNon = decide (l = []) := by
  cases l <;> rfl
theorem ok_nl (B : Blt mg) (G : GK K C) (GD : MtK P w K mg base C 5 "good_deed" psGD (pmGD P w K C)) (F : Fun K "next_level" "Game.next_level" sNL f fd) : FnOk P w K mg base CX0 6 f fd psNL (spP K (pmNL P w K C)) := by
  refine fn_ok F scNL (fun _ => rfl) (fun _ _ => by simp [pmNL]) (by decide) fun cdv A outer s H E ⟨c, lv, prs, L⟩ hr ⟨hg, hpl, hpr⟩ => ?_
  show PSs _ _ (tS K [.p (gP kE P w K C (eC c) lv (prs.map eK) L), .u, .u, .u, .u, .u] _)
  obtain ⟨fm, fdm, FM, hm, hb⟩ := GD.ex
  have hu9 : (A.deeper (PyProof.Rows.envOfC "Game.next_level" (defScope sNL) s.heap.objs.size f cdv)).units + 9 < cLine := by have := hr.un; omega
  have h4 := hg.per4
  refine js_cons (js_setDcn (E := kE) 1 (xs := List.range c.per) (enc := eN) (f := fun p => (p, c.eds)) (dv := fun _ => .t []) (Γe := fun p => [.p (gP kE P w K C (eC c) lv (prs.map eK) L), .u, .u, .u, .u, .d (eN p)]) [("phase", 5)] hu9 rfl scNL.nd rfl rfl (by simp) (sw_trueD rfl rfl rfl (by decide +kernel)) (ji_is (ji_range1 B.range (je_ix (je_clock G (jvp 0)) je_int) (by omega)) (rng_nn c.per)) (blkOk_by (N := nNL) (sc := defScope sNL) (by decide +kernel)) (tg_name 5) (by decide) rfl (fun x _ => rfl) (by rw [List.length_range]; omega) (fun _ _ _ _ _ => pg_name scNL.nd rfl (Or.inl rfl))
    (fun p hp s H C' cl' fp => je_tup (ds := [eN p, eT c.eds]) (ja_cons (jv 5) (ja_cons (je_ix (je_clock G (jvp 0)) je_int) ja_nil))) (fun p hp s H C' cl' fp => je_tup (ds := []) ja_nil) ?_)
  refine js_cons (js_set 2 scNL.nd je_bl ?_)
  refine js_cons (js_while (fun m Γ' => ∃ ks g a b, Reach c lv prs ks ∧ m = (if g = true then unf prs ks + 1 else 0) ∧ (g = false → LevelOk c lv prs ks) ∧ Γ' = [.p (gP kE P w K C (eC c) lv (prs.map eK) L), .o (nC kE P w K ks), .d (.b g), a, b, .u]) PassesOwn.never _ ⟨startL c, true, .u, .u, .start, rfl, (fun z => nomatch z), rfl⟩ ?_)
  rintro m Γ' ⟨ks0, g0, a, b, hR0, rfl, hL0, rfl⟩
  refine ⟨g0, jt_val (jv 2), fun hg0 => ?_, fun hg0 => ?_⟩
  · subst hg0
    refine js_cons (js_set 2 scNL.nd je_bl ?_)
    refine js_one (js_for (ds := prs.map eK) (fun i Γ => ∃ ks g a b, Reach c lv prs ks ∧ (if g = true then unf prs ks < unf prs ks0 else ks = ks0 ∧ ∀ j x, j < i → prs[j]? = some x → x ∈ ks0 ∨ goodsOf c lv ks0 x = []) ∧ Γ = [.p (gP kE P w K C (eC c) lv (prs.map eK) L), .o (nC kE P w K ks), .d (.b g), a, b, .u]) PassesOwn.never rfl (ji_list (je_pl (je_pairs G (jvp 0)))) (pg_name scNL.nd rfl (Or.inl rfl)) (tg_name 3) ⟨ks0, false, a, b, hR0, ⟨rfl, fun _ _ h => absurd h (Nat.not_lt_zero _)⟩, rfl⟩ (fun i dd Γ' hd hI => ?_) fun Γ' hI => ?_)
    · obtain ⟨ks, g, a, b, hR, hG, rfl⟩ := hI
      rw [List.getElem?_map] at hd
      obtain ⟨x, hx, rfl⟩ := Option.map_eq_some_iff.mp hd
      have hxm := List.mem_of_getElem? hx
      refine ⟨[.p (gP kE P w K C (eC c) lv (prs.map eK) L), .o (nC kE P w K ks), .d (.b g), .d (eK x), b, .u], rfl, ?_⟩
      refine js_cons (js_set 4 (d := if x ∈ ks then .non else goodD (goodsOf c lv ks x)) scNL.nd (je_lend 1 lend_n (je_if (jt_nin (E := kE) (k := x) hu9 (jv 3) (jvp 1)) (fun z => ?_) fun z => ?_)) ?_)
      · have z : x ∈ ks := by simpa using z
        rw [if_pos z]
        exact je_non
      · have z : x ∉ ks := by simpa using z
        rw [if_neg z]
        exact je_meth (md := pmGD P w K C) (c, lv, prs.map eK, L, ks, x.1, x.2) G hm FM (hr.mono (by decide)) hb (jvp 0) (ja_cons (jv 3) (ja_cons (jvp 1) ja_nil)) rfl ⟨hg, hpr x hxm⟩ fun r h => h
      refine js_one (js_if (jt_notND (jv 4)) (fun z => ?_) fun z => js_nil ?_)
      · have hn : x ∉ ks := fun q => by
          rw [if_pos q] at z
          cases z
        have hgn : goodsOf c lv ks x ≠ [] := fun q => by
          rw [if_neg hn, q] at z
          cases z
        have hlt := unf_put hxm hn
        have hle : unf prs ks ≤ unf prs ks0 := by
          cases g with
          | true => exact Nat.le_of_lt hG
          | false => rw [hG.1]; exact Nat.le_refl _
        have hl := reach_len hR
        refine js_cons (js_nput (E := kE) (k := x) 1 hu9 rfl (jv 4) (jv 3) (by omega) ?_)
        refine js_one (js_set 2 scNL.nd je_bl ?_)
        refine ⟨putN ks x, true, _, _, ?_, ?_, rfl⟩
        · unfold putN
          rw [if_neg hn]
          exact .put hR hxm hn hgn
        · unfold putN
          rw [if_neg hn, if_pos rfl]
          omega
      · refine ⟨ks, g, _, _, hR, ?_, rfl⟩
        cases g with
        | true => exact hG
        | false =>
          rw [if_neg Bool.false_ne_true] at hG ⊢
          obtain ⟨rfl, hG⟩ := hG
          refine ⟨rfl, fun j y hj hy => ?_⟩
          by_cases e : j = i
          · subst e
            rw [hx] at hy
            cases hy
            by_cases q : x ∈ ks
            · exact .inl q
            · rw [if_neg q, good_isNon] at z
              exact .inr (by simpa using z)
          · exact hG j y (by omega) hy
    · obtain ⟨ks, g, a, b, hR, hG, rfl⟩ := hI
      refine ⟨_, ?_, ks, g, a, b, hR, rfl, fun z => ?_, rfl⟩
      · cases g with
        | true =>
          have hG : unf prs ks < unf prs ks0 := hG
          show unf prs ks + 1 < unf prs ks0 + 1
          omega
        | false =>
          show 0 < unf prs ks0 + 1
          omega
      · subst z
        obtain ⟨rfl, hG⟩ := (show ks = ks0 ∧ _ from hG)
        refine ⟨hR, fun x hx => ?_⟩
        obtain ⟨j, hj⟩ := List.getElem?_of_mem hx
        exact hG j x (by rw [List.length_map]; exact (List.getElem?_eq_some_iff.mp hj).1) hj
  · exact js_one (js_retO 1 rfl ⟨ks0, hL0 hg0, rfl⟩)
end
end LW
end

section
set_option Elab.async false
set_option linter.all false
set_option maxRecDepth 100000
set_option maxHeartbeats 8000000
/-! G3: level, which lengthens the object's list. -/
namespace DL
open PySem PySem.Spec L2 QL
/-- tS, of whose base something is known -/
def tSB (B : Hp → Prop) (K : PySem.W.Frag) (Γ : En) (Φ : Out → Prop) : TS := fun D σ H => ∃ H0, B H0 ∧ Ok K H0 noZ σ Γ H ∧ (∀ Γ' σ' H', Φ (.nx Γ') → Ok K H0 noZ σ' Γ' H' → D.nx σ' H') ∧
  (∀ Γ' σ' H' r v, Φ (.rt Γ' r) → Ok K H0 noZ σ' Γ' H' → RetV K H0 H' r v → D.rt v H') ∧ (∀ Γ' σ' H', Φ (.ct Γ') → Ok K H0 noZ σ' Γ' H' → D.ct σ' H')
section
variable {X : Cx} {B : Hp → Prop} {Γ : En} {st : Stmt} {rest body : List Stmt} {pos : Pos} {Φ Ψ : Out → Prop}
theorem js_ofS (h : PS X st (tS X.K Γ Ψ)) : PS X st (tSB B X.K Γ Ψ) := ps_imp h fun D σ H ⟨H0, _, q⟩ => ⟨H0, q⟩
def contB (B : Hp → Prop) (X : Cx) (rest : List Stmt) (Φ : Out → Prop) : Out → Prop
  | .nx Γ => PSs X rest (tSB B X.K Γ Φ)
  | o => Φ o
theorem js_consB (h : PS X st (tSB B X.K Γ (contB B X rest Φ))) : PSs X (st :: rest) (tSB B X.K Γ Φ) :=
  pss_imp (pss_cons h (pss_ex (α := En) (phi := fun Γ' => PSs X rest (tSB B X.K Γ' Φ)) (t := fun Γ' => tSB B X.K Γ' Φ) fun _ h => h)) fun D σ H ⟨H0, b, ok, h1, h2, h3⟩ => ⟨H0, b, ok, fun Γ' σ' H' hn k => ⟨Γ', hn, H0, b, k, h1, h2, h3⟩, h2, h3⟩
theorem js_oneB (h : PS X st (tSB B X.K Γ Φ)) : PSs X [st] (tSB B X.K Γ Φ) := pss_one h
theorem js_whileB {c : Expr} (I : Nat → En → Prop) (hp : PassesOwn (model X.prog X.w) X.A X.env X.xe) (m0 : Nat) (h0 : I m0 Γ) (hs : ∀ m Γ', I m Γ' → ∃ x, PT X c (tT X.K Γ' x) ∧ (x = true → PSs X body (tSB B X.K Γ' (turnW (fun Γ'' => ∃ m', m' < m ∧ I m' Γ'') Ψ))) ∧ (x = false → Ψ (.nx Γ'))) :
    PS X (.While c body [] pos) (tSB B X.K Γ Ψ) := by
  have hc : PT X c (fun σ H Q => ∃ (m : Nat) (Γ' : En) (x : Bool), PT X c (tT X.K Γ' x) ∧ tT X.K Γ' x σ H Q) := ⟨fun pins s σ H Q I ⟨m, Γ', x, h, q⟩ => h.run pins s σ H Q I q⟩
  refine ps_imp (ps_while hp hc (pss_ex (α := En × (Out → Prop)) (phi := fun q => PSs X body (tSB B X.K q.1 q.2)) (t := fun q => tSB B X.K q.1 q.2) fun _ h => h)) fun D σ H ⟨H0, b, ok, h1, h2, h3⟩ => ?_
  refine ⟨fun m σ' H' => ∃ Γ', I m Γ' ∧ Ok X.K H0 noZ σ' Γ' H', ⟨m0, Γ, h0, ok⟩, ?_⟩
  rintro m σ' H' ⟨Γ', hI, k⟩
  obtain ⟨x, hx, ht, hf⟩ := hs m Γ' hI
  refine ⟨m, Γ', x, hx, noZ, k.toOkS, fun H2 n => ?_⟩
  cases x with
  | true =>
    rw [if_pos rfl]
    refine ⟨fun σ3 H3 => ∃ m', m' < m ∧ ∃ Γ'', I m' Γ'' ∧ Ok X.K H0 noZ σ3 Γ'' H3, fun σ3 H3 z => z, (Γ', _), ht rfl, H0, b, k.nx n, fun Γ3 σ3 H3 ⟨m', hm, q⟩ k4 => ⟨m', hm, Γ3, q, k4⟩, h2, fun Γ3 σ3 H3 ⟨m', hm, q⟩ k4 => ⟨m', hm, Γ3, q, k4⟩⟩
  | false =>
    rw [if_neg Bool.false_ne_true]
    exact h1 _ _ _ (hf rfl) (k.nx n)
end
theorem js_retp {X : Cx} {Γ : En} {e : Expr} {pos : Pos} {Ψ : Out → Prop} {q : Ps} (he : PE X e (tR X.K Γ (.p q))) (h : Ψ (.rt Γ (.p q))) : PS X (.Return (some e) pos) (tS X.K Γ Ψ) :=
  ps_imp (ps_ret he) fun D σ H ⟨H0, ok, _, h2, _⟩ => ⟨noZ, ok.toOkS, fun v H' n r => h2 _ _ _ _ v h (ok.nx n) (q.mono _ _ _ minus_keep r)⟩
theorem je_pw {X : Cx} {K : PySem.W.Frag} {Γ : En} {e : Expr} {p q : Ps} (h : PE X e (tR K Γ (.p p))) (w : ∀ H v, p.phi H v → q.phi H v) : PE X e (tR K Γ (.p q)) := pe_imp h fun σ H Q ⟨Z, k, f⟩ => ⟨Z, k, fun v H' n r => f v H' n (w _ _ r)⟩
/-- nothing owned -/
theorem minus_id {σ : St} {Γ : En} {H : Hp} (h : ∀ c, Sl.o c ∉ Γ) : minus noZ σ Γ H = H := by
  funext b
  unfold minus
  rw [if_neg]
  rintro (z | ⟨i, c, h1, _⟩)
  · exact z
  · exact h c (List.mem_of_getElem? h1)
section
variable {α : Type} [DecidableEq α] {E : KeyEnc α} {X : Cx} {Γ : En} {o e : Expr} {pos : Pos} {C L a : Addr} {c : D} {lv : List (List α)} {ps : List D} {P : Program} {w : World} {K : PySem.W.Frag} {H : Hp} {ks : List α} {vs : List V} {v : V}
/-- the object, the one that v0 is -/
def gPv (E : KeyEnc α) (P : Program) (w : World) (K : PySem.W.Frag) (C : Addr) (c : D) (lv : List (List α)) (ps : List D) (L : Addr) (v0 : V) : Ps := ⟨fun H v => v = v0 ∧ GOn E P w K C c lv ps L H v, fun H H' v k ⟨e, h⟩ => ⟨e, (gP E P w K C c lv ps L).mono H H' v k h⟩⟩
theorem je_gv {v0 : V} (h : PE X e (tR X.K Γ (.p (gPv E P w K C c lv ps L v0)))) : PE X e (tR X.K Γ (.p (gP E P w K C c lv ps L))) := je_pw h fun H v q => q.2
/-- the list of dicts, at its place -/
def plqAt (E : KeyEnc α) (P : Program) (w : World) (K : PySem.W.Frag) (lv : List (List α)) (L : Addr) : Ps := ⟨fun H v => v = .ref L ∧ LqOn E P w K lv L H, fun _ _ _ k ⟨e, h⟩ => ⟨e, h.k E k⟩⟩
theorem je_levelsAt (G : GK X.K C) (he : PE X o (tR X.K Γ (.p (gP E X.prog X.w X.K C c lv ps L)))) (hb : attributeBase o "levels" X.env (eval o X.env) = eval o X.env := by rfl) : PE X (.Attribute o "levels" pos) (tR X.K Γ (.p (plqAt E X.prog X.w X.K lv L))) :=
  pe_imp (pe_fld he hb) fun σ H Q ⟨Z, k, q⟩ => ⟨Z, k, fun v H' n ⟨a, dx, vc, Pa, vs, e1, h1, h2, h3, h4, h5, h6⟩ => ⟨a, C, dx, _, .ref L, e1, (minus_some h1).1, G.cls, G.levels, rfl, q _ H' n ⟨rfl, h4⟩⟩⟩
/-- all but a list's place stays, the list is longer -/
theorem tk_list (h : H L = some (.lst vs)) {ws : List V} : TK H (upd H L (.lst ws)) := fun b ob e hi => by
  by_cases q : b = L
  · subst q
    rw [h] at e
    cases e
    cases hi
  · rw [upd_ne q]
    exact e
theorem nP_list (h : H L = some (.lst vs)) {ws : List V} (hn : (nP E P w K ks).phi H v) : (nP E P w K ks).phi (upd H L (.lst ws)) v := by
  obtain ⟨d, es, e, hd, hk⟩ := hn
  have ne : d ≠ L := fun q => by
    subst q
    rw [h] at hd
    cases hd
  exact ⟨d, es, e, by rw [upd_ne ne]; exact hd, hk.k (tk_list h)⟩
theorem GOn.longer (g : GOn E P w K C c lv ps L H v) (hL : H L = some (.lst vs)) (hn : (nP E P w K ks).phi H (.ref a)) : GOn E P w K C c (lv ++ [ks]) ps L (upd H L (.lst (vs ++ [.ref a]))) v := by
  obtain ⟨x, dx, vc, Pa, us, e, h1, h2, h3, ⟨vs', h4, h5⟩, h6, h7⟩ := g
  rw [hL] at h4
  cases h4
  have ne : x ≠ L := fun q => by
    subst q
    rw [hL] at h1
    cases h1
  exact ⟨x, dx, vc, Pa, us, e, by rw [upd_ne ne]; exact h1, h2, h3.k (tk_list hL), ⟨_, upd_same, Paired.snoc (Paired.mapP h5 fun k u z => nP_list hL z) (nP_list hL hn)⟩, by rw [upd_ne h2]; exact h6, h7.k (tk_list hL)⟩
theorem keep_longer {H0 : Hp} (k : Keep H0 H) (h0 : H0 L = none) {ws : List V} : Keep H0 (upd H L (HO.lst ws)) :=
  ⟨fun b o e n => by
    rw [upd_ne (ne_of_none e h0)]
    exact k.obj b o e n, fun b ps e => by
    obtain ⟨ps', e', t⟩ := k.tab b ps e
    exact ⟨ps', by rw [upd_ne (ne_of_none e h0)]; exact e', t⟩⟩
theorem tabG_longer {T : Addr} (h : GxR.TabG H T) (hL : H L = some (.lst vs)) {ws : List V} : GxR.TabG (upd H L (.lst ws)) T := by
  obtain ⟨ps, e, t⟩ := h
  have ne : T ≠ L := fun q => by
    subst q
    rw [hL] at e
    cases e
  exact ⟨ps, by rw [upd_ne ne]; exact e, t⟩
end
end DL
namespace LC
/-- levels built one by one -/
def Chain (c : Clk) (prs : Lvl) (lv : List Lvl) : Prop := ∀ i ks, lv[i]? = some ks → LevelOk c (lv.take i) prs ks
theorem Chain.snoc {c : Clk} {prs : Lvl} {lv : List Lvl} {ks : Lvl} (h : Chain c prs lv) (hk : LevelOk c lv prs ks) : Chain c prs (lv ++ [ks]) := fun i k e => by
  by_cases hi : i < lv.length
  · rw [List.getElem?_append_left hi] at e
    rw [List.take_append_of_le_length (Nat.le_of_lt hi)]
    exact h i k e
  · rw [List.getElem?_append_right (by omega)] at e
    have : i = lv.length := by
      have := (List.getElem?_eq_some_iff.mp e).1
      simp only [List.length_cons, List.length_nil] at this
      omega
    subst this
    rw [Nat.sub_self, List.getElem?_cons_zero] at e
    cases e
    rw [List.take_append_of_le_length (Nat.le_refl _), List.take_length]
    exact hk
end LC
namespace LW
open PySem PySem.Spec L2 DL LC QL
section
variable {P : Program} {w : World} {K : PySem.W.Frag} {mg : Str → Option Value} {base : Heap} {f : Addr} {fd : FuncData} {C : Addr}
abbrev sLv : Stmt := mtS 1
abbrev nLv : List Str := ["self", "misses"]
theorem scLv : FnScope nLv nLv (defScope sLv) := ⟨rfl, rfl, rfl, by decide +kernel, rfl, by decide +kernel, by decide +kernel⟩
/-- level's promise -/
def spLv (P : Program) (w : World) (K : PySem.W.Frag) (C : Addr) : Sp := fun vs H Q _ => ∃ (c : Clk) (lv : List Lvl) (prs : Lvl) (L : Addr) (m : Nat) (v0 : V), Good c ∧ prs.length ≤ 1000 ∧ (∀ x ∈ prs, Std c x.2) ∧ m ≤ 12 ∧ lv.length ≤ 20 ∧ Chain c prs lv ∧ (∀ P ∈ tabs K, GxR.TabG H P) ∧ vs = [v0, .int m] ∧ GOn kE P w K C (eC c) lv (prs.map eK) L H v0 ∧
  ∀ lv' ks H' u, Keep (rm L H) H' → (∀ P ∈ tabs K, GxR.TabG H' P) → GOn kE P w K C (eC c) lv' (prs.map eK) L H' v0 → Chain c prs lv' → lv'.length ≤ 20 → lv'[m]? = some ks → (nP kE P w K ks).phi H' u → Q u H'
theorem ok_lv (B : Blt mg) (G : GK K C) (GN : MtK P w K mg base C 6 "next_level" psNL (pmNL P w K C)) (F : Fun K "level" "Game.level" sLv f fd) : FnOk P w K mg base CX0 7 f fd nLv (spLv P w K C) := by
  refine F.ok scLv (fun vs H Q E ⟨c, lv, prs, L, m, v0, _, _, _, _, _, _, _, e, _⟩ => by rw [e]; rfl) fun cdv A outer s H vs Q E hr ⟨c, lv, prs, L, m, v0, hg, hpl, hpr, hm, hll, hch, ht, e, g, q⟩ => ?_
  obtain ⟨fm, fdm, FM, hmn, hb⟩ := GN.ex
  subst e
  have hr0 : ∃ vs0, H L = some (.lst vs0) := by
    obtain ⟨_, _, _, _, _, _, _, _, _, ⟨vs0, h, _⟩, _⟩ := g
    exact ⟨vs0, h⟩
  obtain ⟨vs0, hL0⟩ := hr0
  have st0 : Ok K H noZ (L2.start nLv [v0, V.int m]) [.p (gPv kE P w K C (eC c) lv (prs.map eK) L v0), .d (eN m)] H := ok_start (rs := [.p (gPv kE P w K C (eC c) lv (prs.map eK) L v0), .d (eN m)]) ⟨v0, _, rfl, ⟨rfl, g⟩, _, _, rfl, rfl, rfl⟩ (Nat.le_refl 2) (by simp) ht
  have body : PSs (cxOf CX0 P w K mg base nLv "Game.level" (defScope sLv) f cdv A outer s H E).nox (defBody sLv) (tSB (fun H0 => H0 L = none) K [.p (gPv kE P w K C (eC c) lv (prs.map eK) L v0), .d (eN m)] (fun o => match o with
      | .rt Γ r => ∃ lv' ks, Γ = [.p (gPv kE P w K C (eC c) lv' (prs.map eK) L v0), .d (eN m)] ∧ Chain c prs lv' ∧ lv'.length ≤ 20 ∧ lv'[m]? = some ks ∧ r = .p (nP kE P w K ks)
      | _ => False)) := by
    refine js_consB (js_whileB (fun n Γ' => ∃ lv', Γ' = [.p (gPv kE P w K C (eC c) lv' (prs.map eK) L v0), .d (eN m)] ∧ Chain c prs lv' ∧ lv'.length ≤ 20 ∧ n = m + 1 - lv'.length) PassesOwn.never _ ⟨lv, rfl, hch, hll, rfl⟩ ?_)
    rintro n Γ' ⟨lv', rfl, hch', hl', rfl⟩
    refine ⟨_, jt_le (je_lenQ B.len (je_levels G (je_gv (jvp 0)))) (jv 1), fun z => ?_, fun z => ?_⟩
    · have z : lv'.length ≤ m := by
        have := of_decide_eq_true z
        omega
      refine js_oneB (ps_imp (ps_expr (pe_bm PySem.F.plainAttrs_list PySem.F.slot_list_append PySem.F.type_list_append mt_append (je_levelsAt (E := kE) (c := eC c) (lv := lv') (ps := prs.map eK) (L := L) (Γ := [.p (gPv kE P w K C (eC c) lv' (prs.map eK) L v0), .d (eN m)]) G (je_gv (jvp 0))) (pa_cons (je_meth0F (E := kE) (c := eC c) (lv := lv') (ps := prs.map eK) (L := L) (Γ := [.p (gPv kE P w K C (eC c) lv' (prs.map eK) L v0), .d (eN m)]) (md := pmNL P w K C) (PP := fun cc => ∃ ks, LevelOk c lv' prs ks ∧ cc = nC kE P w K ks) (c, lv', prs, L) G hmn FM (hr.mono (by decide)) hb (je_gv (jvp 0)) rfl ⟨hg, hpl, hpr⟩ fun r ⟨ks, h1, h2⟩ => ⟨_, h2, ks, h1, rfl⟩) pa_nil))) fun D σ H1 ⟨H0, b, ok, h1, _, _⟩ => ?_)
      refine ⟨noZ, ok.toOkS, fun v H2 n2 ⟨ev, hq⟩ => ?_⟩
      subst ev
      obtain ⟨vs2, hL2, hpd⟩ := hq
      refine ⟨.inl ⟨rfl, _, SqL.of (minus_some hL2).1⟩, noZ, n2.ok, fun cc a ob H3 hc n3 fr ha on => ?_⟩
      obtain ⟨ks, hks, rfl⟩ := hc
      obtain ⟨es, rfl, hka⟩ := on
      have no : ∀ (lv : List Lvl) (cc : Ct), Sl.o cc ∉ [Sl.p (gPv kE P w K C (eC c) lv (prs.map eK) L v0), Sl.d (eN m)] := fun lv cc => by simp
      have hL3 := n3.kp.obj _ _ hL2 rfl
      have k3 := n3.ok
      have ok3 := (ok.nx n2).nx n3
      obtain ⟨y0, s0, u0, t0, g0⟩ := k3.sl 0 _ rfl
      obtain ⟨y1, s1, u1, t1, g1⟩ := k3.sl 1 _ rfl
      have hb3 := ok3.base
      have htb := k3.tb
      have hlen := k3.len
      rw [minus_id (no _)] at hL3 g0 g1 hb3
      refine ⟨L, vs2, .ref a, rfl, rfl, hL3, ?_, ?_⟩
      · obtain ⟨_, _, _, _, _, _, _, _, _, _, ⟨vs9, h9, h8⟩, _⟩ := g0
        rw [hL3] at h9
        cases h9
        refine Nat.lt_of_lt_of_le (show vs2.length < 100 from ?_) (by decide)
        rw [← Paired.length h8]
        omega
      · refine h1 _ σ _ ⟨m + 1 - (lv' ++ [ks]).length, by rw [List.length_append]; simp only [List.length_cons, List.length_nil]; omega, lv' ++ [ks], rfl, hch'.snoc hks, by rw [List.length_append]; simp only [List.length_cons, List.length_nil]; omega, rfl⟩ ?_
        have gn := GOn.longer g0.2 hL3 ⟨a, es, rfl, ha, hka⟩
        refine ⟨⟨hlen, fun i sl e => ?_, fun i j cc c' b e1 => absurd (List.mem_of_getElem? e1) (no _ _), fun _ z => z.elim, fun i cc b e1 => absurd (List.mem_of_getElem? e1) (no _ _), fun P hP => ?_⟩, ?_⟩
        · rw [minus_id (no _)]
          match i, e with
          | 0, e =>
            cases e
            exact ⟨y0, s0, u0, t0, g0.1, gn⟩
          | 1, e =>
            cases e
            exact ⟨y1, s1, u1, t1, g1⟩
          | i + 2, e => simp at e
        · have := htb P hP
          rw [minus_id (no _)] at this ⊢
          exact tabG_longer this hL3
        · rw [minus_id (no _)]
          exact keep_longer hb3 b
    · have z : m < lv'.length := by
        have := of_decide_eq_false z
        omega
      refine js_oneB (js_ofS (js_retp (je_ixQ (je_levels G (je_gv (jvp 0))) (jv 1) (List.getElem?_eq_getElem z)) ⟨lv', _, rfl, hch', hl', List.getElem?_eq_getElem z, rfl⟩))
  refine ⟨_, body, rm L H, rm_self, ?_, fun Γ' σ' H' h => h.elim, fun Γ' σ' H' r v hr' k rv => ?_, fun _ _ _ z => z.elim⟩
  · obtain ⟨k, b⟩ := st0
    exact ⟨k, by
      rw [minus_id (by simp)]
      exact rm_keep⟩
  · obtain ⟨lv', ks, rfl, h1, h2, h3, rfl⟩ := hr'
    have kb := k.base
    obtain ⟨y0, s0, u0, t0, g0⟩ := k.sl 0 _ rfl
    have htb := k.tb
    rw [minus_id (by simp)] at kb g0
    obtain ⟨e0, g0⟩ := g0
    rw [e0] at g0
    exact q lv' ks H' v kb (fun P hP => by have := htb P hP; rwa [minus_id (by simp)] at this) g0 h1 h2 h3 rv
end
end LW
end

section
set_option Elab.async false
set_option linter.all false
set_option maxRecDepth 100000
set_option maxHeartbeats 8000000
/-! G4: __init__. -/
namespace DL
open PySem PySem.Spec L2 QL
section
variable {K : PySem.W.Frag} {H H' H0 : Hp} {x T : Addr} {o o' : HO} {σ : St} {Γ : En}
theorem tk_updm (h : H x = some o) (hi : Im o = false) : TK H (upd H x o') := fun b ob e hb => by
  by_cases q : b = x
  · subst q
    rw [h] at e
    cases e
    rw [hi] at hb
    cases hb
  · rw [upd_ne q]
    exact e
theorem tabG_updm (t : GxR.TabG H T) (h : H x = some o) (hi : NT o = true) : GxR.TabG (upd H x o') T := by
  obtain ⟨ps, e, t⟩ := t
  have ne : T ≠ x := fun q => by
    subst q
    rw [h] at e
    cases e
    cases hi
  exact ⟨ps, by rw [upd_ne ne]; exact e, t⟩
theorem keep_rm_upd (k : Keep (rm x H0) H) : Keep (rm x H0) (upd H x o) :=
  ⟨fun b ob e n => by
    rw [upd_ne (rm_some e).1]
    exact k.obj b ob e n, fun b ps e => by
    obtain ⟨ps', e', t⟩ := k.tab b ps e
    exact ⟨ps', by rw [upd_ne (rm_some e).1]; exact e', t⟩⟩
/-- slots of data only -/
def OnlyD (Γ : En) : Prop := ∀ s ∈ Γ, s = .u ∨ ∃ d, s = .d d
theorem OnlyD.no (h : OnlyD Γ) : ∀ c, Sl.o c ∉ Γ := fun c hc => by
  rcases h _ hc with z | ⟨d, z⟩ <;> cases z
theorem OkS.updm (hΓ : OnlyD Γ) (k : OkS K noZ σ Γ H) (h : H x = some o) (hi : Im o = false) (hn : NT o = true) : OkS K noZ σ Γ (upd H x o') := by
  refine ⟨k.len, fun i s e => ?_, fun i j c c' b e1 => absurd (List.mem_of_getElem? e1) (hΓ.no c), fun _ z => z.elim, fun i c b e1 => absurd (List.mem_of_getElem? e1) (hΓ.no c), fun P hP => ?_⟩
  · obtain ⟨v, e1, q⟩ := k.sl i s e
    refine ⟨v, e1, ?_⟩
    rw [minus_id hΓ.no] at q ⊢
    rcases hΓ _ (List.mem_of_getElem? e) with z | ⟨d, z⟩
    · subst z
      trivial
    · subst z
      obtain ⟨y, f, r⟩ := q
      exact ⟨y, f, r.k (tk_updm h hi)⟩
  · have := k.tb P hP
    rw [minus_id hΓ.no] at this ⊢
    exact tabG_updm this h hn
end
end DL
namespace LC
def pairsOf (c : Clk) : Lvl := (stds c.eds).flatMap fun s => (List.range c.per).map fun p => (p, s)
end LC
namespace LW
open PySem PySem.Spec L2 DL LC QL
section
variable {P : Program} {w : World} {K : PySem.W.Frag} {mg : Str → Option Value} {base : Heap} {f : Addr} {fd : FuncData} {C : Addr}
abbrev sIn : Stmt := mtS 0
abbrev nIn : List Str := ["self", "clock", "standing", "phase"]
abbrev psIn : List Str := ["self", "clock"]
theorem scIn : FnScope nIn psIn (defScope sIn) := ⟨rfl, rfl, rfl, by decide +kernel, rfl, by decide +kernel, by decide +kernel⟩
def spIn (P : Program) (w : World) (K : PySem.W.Frag) (C : Addr) : Sp := fun vs H Q _ => ∃ (x dx : Addr) (c : Clk) (vc : V), Good c ∧ (∀ P ∈ tabs K, GxR.TabG H P) ∧ vs = [.ref x, vc] ∧ H x = some (.ins C dx []) ∧ Dn K H (eC c) vc ∧
  ∀ L H', Keep (rm x H) H' → H L = none → (∀ P ∈ tabs K, GxR.TabG H' P) → GOn kE P w K C (eC c) [] ((pairsOf c).map eK) L H' (.ref x) → Q .non H'
theorem ok_in (B : Blt mg) (G : GK K C) (GS : Df P w K mg base 1 "every_standing" ["clock"] (pmSts K)) (F : Fun K "__init__" "Game.__init__" sIn f fd) : FnOk P w K mg base CX0 2 f fd psIn (spIn P w K C) := by
  refine F.ok scIn (fun vs H Q E ⟨x, dx, c, vc, _, _, e, _⟩ => by rw [e]; rfl) fun cdv A outer s H vs Q E hr ⟨x, dx, c, vc, hg, ht, e, hx, hc, q⟩ => ?_
  subst e
  have h3 := hg.n3
  have h4 := hg.per4
  have hΓ : OnlyD [.u, .d (eC c), .u, .u] := by
    intro s hs
    simp only [List.mem_cons, List.not_mem_nil, or_false] at hs
    rcases hs with rfl | rfl | rfl | rfl <;> simp
  have k0 : OkS K noZ (L2.start nIn [.ref x, vc]) [.u, .d (eC c), .u, .u] H := by
    have := ok_start (N := nIn) (rs := [.p ⟨fun _ _ => True, fun _ _ _ _ _ => trivial⟩, .d (eC c)]) (vs := [.ref x, vc]) (H := H) (K := K) ⟨_, _, rfl, trivial, _, _, rfl, hc, rfl⟩ (show 2 ≤ 4 by decide) (by simp) ht
    exact (ok_forget (i := 0) this (by simp)).toOkS
  refine ⟨_, pss_cons (ps_fld (pe_var (i := 0) (x := "self") rfl (by first | exact Or.inl rfl | exact Or.inr (Or.inl rfl))) (jv (K := K) (Γ := [.u, .d (eC c), .u, .u]) 1) rfl)
    (pss_cons (ps_fld (pe_var (i := 0) (x := "self") rfl (by first | exact Or.inl rfl | exact Or.inr (Or.inl rfl))) (je_lst (K := K) (Γ := [.u, .d (eC c), .u, .u]) (ds := []) ja_nil) rfl)
      (pss_one (ps_fld (pe_var (i := 0) (x := "self") rfl (by first | exact Or.inl rfl | exact Or.inr (Or.inl rfl)))
        (je_lc2 (Γ := [.u, .d (eC c), .u, .u]) (xs := stds c.eds) (ys := fun _ => List.range c.per) (enc := eT) (enc1 := fun _ p => eN p) (f := fun st p => eK (p, st)) (pb := fun _ _ => true) (Γe := fun st => [.u, .d (eC c), .d (eT st), .u]) (Γf := fun st p => [.u, .d (eC c), .d (eT st), .d (eN p)]) [("standing", 2), ("phase", 3)] [3] rfl scIn.nd
          (ji_list (je_fp (jcF GS c hr (by decide) (ja_cons (jv 1) ja_nil) hg fun r h => ⟨_, h, rfl⟩))) (blkOk_by (N := nIn) (sc := defScope sIn) (by decide +kernel)) (by decide) (tg_name 2) (by decide) rfl (fun _ _ => rfl) (tg_name 3) (by decide) (fun _ _ => rfl) (fun _ _ _ _ => rfl) ?_
          (fun _ _ _ _ _ => pg_name scIn.nd rfl (Or.inl rfl)) (fun y hy s H C cl fp => ji_is (ji_range1 B.range (je_ix (jv 1) je_int) (by omega)) (rng_nn c.per)) (fun _ _ _ _ _ => pg_name scIn.nd rfl (Or.inl rfl)) (fun _ _ _ _ _ _ _ _ _ => jts_nil)
          (fun y hy p hp _ s H C cl fp => je_tup (ds := [eN p, eT y]) (ja_cons (jv 3) (ja_cons (jv 2) ja_nil)))) rfl))), ?_⟩
  · refine Nat.le_trans (flat_len 4 _ _ fun y hy => ?_) (show (stds c.eds).length * 4 ≤ 100000 from ?_)
    · rw [List.length_map]
      refine Nat.le_trans (List.length_filter_le _ _) ?_
      rw [List.length_range]
      exact h4
    · have := stds_size hg.ed c.eds.length (Nat.le_refl _)
      rw [List.take_length] at this
      have h33 : 3 ^ c.eds.length ≤ 3 ^ 3 := Nat.pow_le_pow_right (by decide) h3
      omega
  -- the three stores
  refine ⟨noZ, k0, fun y H1 n1 r1 => ?_⟩
  have kp1 := n1.kp
  have k1 := n1.ok
  rw [minus_id hΓ.no, minus_id hΓ.no] at kp1
  rw [minus_id hΓ.no] at r1
  have hx1 := kp1.obj x _ hx rfl
  refine ⟨.ref x, rfl, x, C, dx, [], rfl, hx1, G.cls, G.clock, by decide, ?_⟩
  have k2 := OkS.updm (o' := .ins C dx (putF "clock" y [])) hΓ k1 hx1 rfl rfl
  have tk2 : TK H1 (upd H1 x (.ins C dx (putF "clock" y []))) := tk_updm hx1 rfl
  have kr2 : Keep (rm x H) (upd H1 x (.ins C dx (putF "clock" y []))) := keep_rm_upd (rm_keep.trans kp1)
  refine ⟨noZ, k2, fun cc L ob H2 hcc n2 fr2 ha2 on2 => ?_⟩
  subst hcc
  obtain ⟨ws, rfl, hws⟩ := on2
  have hws : ws = [] := hws
  subst hws
  have kp2 := n2.kp
  have k2' := n2.ok
  rw [minus_id hΓ.no, minus_id hΓ.no] at kp2
  have hx2 := kp2.obj x _ upd_same rfl
  have neL : L ≠ x := fun z => by
    rw [z, upd_same] at fr2
    cases fr2
  refine ⟨.ref x, rfl, x, C, dx, _, rfl, hx2, G.cls, G.levels, (show 1 < 1000 by decide), ?_⟩
  have k3 := OkS.updm (o' := .ins C dx (putF "levels" (.ref L) (putF "clock" y []))) hΓ k2' hx2 rfl rfl
  have tk3 : TK H2 (upd H2 x (.ins C dx (putF "levels" (.ref L) (putF "clock" y [])))) := tk_updm hx2 rfl
  have kr3 : Keep (rm x H) (upd H2 x (.ins C dx (putF "levels" (.ref L) (putF "clock" y [])))) := keep_rm_upd (kr2.trans kp2)
  have hL3 : (upd H2 x (.ins C dx (putF "levels" (.ref L) (putF "clock" y [])))) L = some (.lst []) := by rw [upd_ne neL]; exact ha2
  refine ⟨noZ, k3, fun cc Pa ob H3 hcc n3 fr3 ha3 on3 => ?_⟩
  subst hcc
  obtain ⟨us, rfl, hus⟩ := on3
  have kp3 := n3.kp
  have k3' := n3.ok
  rw [minus_id hΓ.no, minus_id hΓ.no] at kp3
  have hx3 := kp3.obj x _ upd_same rfl
  have neP : Pa ≠ x := fun z => by
    rw [z, upd_same] at fr3
    cases fr3
  have nePL : Pa ≠ L := fun z => by
    rw [z, hL3] at fr3
    cases fr3
  refine ⟨.ref x, rfl, x, C, dx, _, rfl, hx3, G.cls, G.pairs, (show 2 < 1000 by decide), ?_⟩
  have tk4 : TK H3 (upd H3 x (.ins C dx (putF "pairs" (.ref Pa) (putF "levels" (.ref L) (putF "clock" y []))))) := tk_updm hx3 rfl
  refine q L _ (keep_rm_upd (kr3.trans kp3)) ?_ ?_ ?_
  · have f1 : H1 L = none := by rw [← fr2, upd_ne neL]
    exact n1.free f1
  · intro T hT
    have := k3'.tb T hT
    rw [minus_id hΓ.no] at this
    exact tabG_updm this hx3 rfl
  · refine ⟨x, dx, y, Pa, us, rfl, upd_same, nePL, ?_, ⟨[], ?_, .nil⟩, ?_, ?_⟩
    · have r1 : Dn K H1 (eC c) y := r1
      exact r1.k (((tk2.trans kp2.tk).trans (tk3.trans kp3.tk)).trans tk4)
    · rw [upd_ne neL]
      exact kp3.obj L _ hL3 rfl
    · rw [upd_ne neP]
      exact ha3
    · have e9 : ((stds c.eds).flatMap fun st => ((List.range c.per).filter fun _ => true).map fun p => eK (p, st)) = (pairsOf c).map eK := by
        unfold pairsOf
        rw [List.map_flatMap]
        congr 1
        funext st
        rw [List.map_map, List.filter_eq_self.mpr (fun _ _ => rfl)]
        rfl
      have hus : Dns K H3 ((stds c.eds).flatMap fun st => ((List.range c.per).filter fun _ => true).map fun p => eK (p, st)) us := hus
      rw [e9] at hus
      exact hus.k tk4
end
end LW
end

section
set_option Elab.async false
set_option linter.all false
set_option maxRecDepth 100000
set_option maxHeartbeats 4000000
/-! M3: what the levels hold. -/
namespace LC
open LW
/-- who is done of a deed, m being missed -/
def doneM (s d m : List Nat) : List Nat := doneS s (d.filter fun w => !decide (w ∈ m))
inductive Sure (c : Clk) : Nat → Nat → List Nat → Prop where
  | done {k p : Nat} (hp : p < c.per) : Sure c k p c.eds
  | step {k p : Nat} {s d : List Nat} (hp : p < c.per) (hd : d ∈ deedsAt c p s) (h1 : ∀ m ∈ subs d, m.length ≤ k → notFit c (doneM s d m) p = []) (h2 : ∀ m ∈ subs d, m.length ≤ k → Sure c (k - m.length) ((p + 1) % c.per) (doneM s d m)) : Sure c k p s
theorem at_done {s d : List Nat} {i : Nat} (h : i < s.length) : at_ (doneS s d) i = at_ s i + if i ∈ d then 1 else 0 := by
  unfold doneS
  have e : (s.zipIdx.map fun p => p.1 + if p.2 ∈ d then 1 else 0)[i]? = some (at_ s i + if i ∈ d then 1 else 0) := by
    rw [List.getElem?_map, List.getElem?_zipIdx, at_get h]
    simp
  unfold at_ at *
  rw [List.getD_eq_getElem?_getD, e]
  rfl
theorem lay_sub (ws : List Nat) : ∀ i, ∀ x ∈ lay ws i, ∀ w ∈ x, w ∈ ws
  | 0, x, h, w, hw => by
    rw [List.mem_singleton.mp h] at hw
    cases hw
  | i + 1, x, h, w, hw => by
    obtain ⟨y, hy, h⟩ := List.mem_flatMap.mp h
    obtain ⟨e, he, rfl⟩ := List.mem_map.mp h
    rcases List.mem_append.mp hw with z | z
    · exact lay_sub ws i y hy w z
    · rw [List.mem_singleton.mp z]
      exact (List.mem_filter.mp he).1
theorem lays_sub (ws : List Nat) : ∀ i, ∀ x ∈ lays ws i, ∀ w ∈ x, w ∈ ws
  | 0, x, h, w, hw => by
    rw [List.mem_singleton.mp h] at hw
    cases hw
  | i + 1, x, h, w, hw => by
    rcases List.mem_append.mp (show x ∈ lays ws i ++ lay ws (i + 1) from h) with z | z
    · exact lays_sub ws i x z w hw
    · exact lay_sub ws (i + 1) x z w hw
theorem deeds_open {c : Clk} {p : Nat} {s d : List Nat} (hd : d ∈ deedsAt c p s) : ∀ w ∈ d, w < c.eds.length ∧ at_ s w < at_ c.eds w ∧ p ∈ gapsOf c w := fun w hw => by
  have h := lays_sub _ _ d hd w hw
  unfold openW at h
  obtain ⟨x, hx, rfl⟩ := List.mem_map.mp h
  obtain ⟨hx, hp⟩ := List.mem_filter.mp hx
  obtain ⟨q1, q2⟩ := mem_zipIdx_at hx
  have hp := Bool.and_eq_true_iff.mp hp
  exact ⟨q1, by rw [← q2]; exact of_decide_eq_true hp.1, of_decide_eq_true hp.2⟩
theorem std_doneS {c : Clk} {s d : List Nat} (hs : Std c s) (hd : ∀ w ∈ d, at_ s w < at_ c.eds w) : Std c (doneS s d) := by
  refine ⟨by rw [doneS_len]; exact hs.len, fun i => ?_⟩
  by_cases hi : i < s.length
  · rw [at_done hi]
    have := hs.le i
    by_cases q : i ∈ d
    · have := hd i q
      rw [if_pos q]
      omega
    · rw [if_neg q]
      omega
  · have : at_ (doneS s d) i = 0 := by
      unfold at_
      rw [List.getD_eq_getElem?_getD, List.getElem?_eq_none (by rw [doneS_len]; omega)]
      rfl
    omega
theorem std_doneM {c : Clk} {p : Nat} {s d m : List Nat} (hs : Std c s) (hd : d ∈ deedsAt c p s) : Std c (doneM s d m) := std_doneS hs fun w hw => (deeds_open hd w (List.mem_filter.mp hw).1).2.1
theorem mem_stds (d : List Nat) : ∀ s, s ∈ stds d ↔ s.length = d.length ∧ ∀ i, at_ s i ≤ at_ d i := by
  have key : ∀ n, n ≤ d.length → ∀ s, s ∈ stds (d.take n) ↔ s.length = n ∧ ∀ i, i < n → at_ s i ≤ at_ d i := by
    intro n
    induction n with
    | zero =>
      intro _ s
      rw [List.take_zero]
      constructor
      · intro h
        rw [List.mem_singleton.mp h]
        exact ⟨rfl, fun i hi => absurd hi (Nat.not_lt_zero i)⟩
      · intro ⟨h, _⟩
        rw [List.length_eq_zero_iff.mp h]
        exact List.mem_singleton.mpr rfl
    | succ n ih =>
      intro hn s
      have hl := at_get (show n < d.length from hn)
      rw [stds_take hl, List.mem_flatMap]
      constructor
      · rintro ⟨y, hy, h⟩
        obtain ⟨e, he, rfl⟩ := List.mem_map.mp h
        obtain ⟨h1, h2⟩ := (ih (by omega) y).mp hy
        refine ⟨by rw [List.length_append, h1]; rfl, fun i hi => ?_⟩
        by_cases q : i < n
        · have : at_ (y ++ [e]) i = at_ y i := by
            unfold at_
            rw [List.getD_eq_getElem?_getD, List.getD_eq_getElem?_getD, List.getElem?_append_left (by omega)]
          rw [this]
          exact h2 i q
        · have : i = n := by omega
          subst this
          have : at_ (y ++ [e]) i = e := by
            unfold at_
            rw [List.getD_eq_getElem?_getD, List.getElem?_append_right (by omega), h1, Nat.sub_self]
            rfl
          rw [this]
          have := List.mem_range.mp he
          omega
      · rintro ⟨h1, h2⟩
        refine ⟨s.take n, (ih (by omega) _).mpr ⟨by rw [List.length_take]; omega, fun i hi => ?_⟩, List.mem_map.mpr ⟨at_ s n, List.mem_range.mpr (by have := h2 n (by omega); omega), ?_⟩⟩
        · have : at_ (s.take n) i = at_ s i := by
            unfold at_
            rw [List.getD_eq_getElem?_getD, List.getD_eq_getElem?_getD, List.getElem?_take, if_pos hi]
          rw [this]
          exact h2 i (by omega)
        · have h3 : s = s.take (n + 1) := (List.take_of_length_le (by omega)).symm
          conv => rhs; rw [h3]
          rw [List.take_add_one, at_get (by omega)]
          rfl
  intro s
  have := key d.length (Nat.le_refl _) s
  rw [List.take_length] at this
  rw [this]
  refine ⟨fun ⟨h1, h2⟩ => ⟨h1, fun i => ?_⟩, fun ⟨h1, h2⟩ => ⟨h1, fun i _ => h2 i⟩⟩
  by_cases hi : i < d.length
  · exact h2 i hi
  · have : at_ s i = 0 := by
      unfold at_
      rw [List.getD_eq_getElem?_getD, List.getElem?_eq_none (by omega)]
      rfl
    omega
theorem mem_pairs {c : Clk} {x : Nat × List Nat} : x ∈ pairsOf c ↔ x.1 < c.per ∧ Std c x.2 := by
  unfold pairsOf
  rw [List.mem_flatMap]
  constructor
  · rintro ⟨s, hs, h⟩
    obtain ⟨p, hp, rfl⟩ := List.mem_map.mp h
    obtain ⟨h1, h2⟩ := (mem_stds _ s).mp hs
    exact ⟨List.mem_range.mp hp, h1, h2⟩
  · rintro ⟨h1, h2⟩
    exact ⟨x.2, (mem_stds _ _).mpr ⟨h2.len, h2.le⟩, List.mem_map.mpr ⟨x.1, List.mem_range.mpr h1, rfl⟩⟩
/-- what a good deed is, at level k -/
theorem goodB_at {c : Clk} {lv : List Lvl} {k p : Nat} {s d m : List Nat} {fo ks' : Lvl} (hk : k ≤ lv.length) (hl : ∀ h : m ≠ [], m.length ≤ k → lv[k - m.length]? = some ks') : goodB c (lv.take k) fo p s d m = true ↔ (m.length ≤ k → notFit c (doneM s d m) p = [] ∧ ((p + 1) % c.per, doneM s d m) ∈ if m = [] then fo else ks') := by
  have hlen : (lv.take k).length = k := by rw [List.length_take]; omega
  unfold goodB
  rw [hlen, Bool.or_eq_true, Bool.and_eq_true, decide_eq_true_iff, decide_eq_true_iff, decide_eq_true_iff]
  by_cases h : m.length ≤ k
  · have e : (if m = [] then fo else (lv.take k).getD (k - m.length) []) = if m = [] then fo else ks' := by
      by_cases q : m = []
      · rw [if_pos q, if_pos q]
      · have := List.length_pos_iff.mpr q
        rw [if_neg q, if_neg q, List.getD_eq_getElem?_getD, List.getElem?_take, if_pos (by omega), hl q h]
        rfl
    rw [e]
    constructor
    · rintro (z | z)
      · omega
      · exact fun _ => z
    · exact fun z => .inr (z h)
  · exact ⟨fun _ z => absurd z h, fun _ => .inl (by omega)⟩
theorem reach_start {c : Clk} {lv : List Lvl} {prs ks : Lvl} (h : Reach c lv prs ks) : ∀ x ∈ startL c, x ∈ ks := by
  induction h with
  | start => exact fun x hx => hx
  | put h hx hn hg ih => exact fun x hx => List.mem_append_left _ (ih x hx)
theorem mem_startL {c : Clk} {x : Nat × List Nat} : x ∈ startL c ↔ x.1 < c.per ∧ x.2 = c.eds := by
  unfold startL DL.putAll
  rw [DL.mem_putAll]
  constructor
  · rintro (z | ⟨p, hp, rfl⟩)
    · cases z
    · exact ⟨List.mem_range.mp hp, rfl⟩
  · rintro ⟨h1, h2⟩
    exact .inr ⟨x.1, List.mem_range.mpr h1, Prod.ext rfl h2.symm⟩
theorem level_sound {c : Clk} {lv : List Lvl} (hc : Chain c (pairsOf c) lv) : ∀ k ks, lv[k]? = some ks → ∀ x ∈ ks, Sure c k x.1 x.2 := by
  intro k
  induction k using Nat.strongRecOn with
  | _ k IH =>
    intro ks hk
    have hkl := (List.getElem?_eq_some_iff.mp hk).1
    have hR := (hc k ks hk).1
    generalize hlk : lv.take k = lk at hR
    clear hk
    induction hR with
    | start =>
      intro x hx
      obtain ⟨h1, h2⟩ := mem_startL.mp hx
      rw [h2]
      exact .done h1
    | @put ks y h hx hn hg ih =>
      intro x hx'
      rcases List.mem_append.mp hx' with z | z
      · exact ih x z
      · rw [List.mem_singleton.mp z]
        obtain ⟨d, hd⟩ := List.exists_mem_of_ne_nil _ hg
        obtain ⟨hd, hgd⟩ := List.mem_filter.mp hd
        have hall := List.all_eq_true.mp hgd
        have get : ∀ m ∈ subs d, m.length ≤ k → notFit c (doneM y.2 d m) y.1 = [] ∧ Sure c (k - m.length) ((y.1 + 1) % c.per) (doneM y.2 d m) := fun m hm hmk => by
          have hg1 := hall m hm
          rw [← hlk] at hg1
          by_cases q : m = []
          · have := (goodB_at (ks' := []) (Nat.le_of_lt hkl) (fun h => absurd q h)).mp hg1 hmk
            rw [if_pos q] at this
            refine ⟨this.1, ?_⟩
            have h9 := ih _ this.2
            rw [q]
            rw [q] at h9
            exact h9
          · have hp := List.length_pos_iff.mpr q
            have hlt : k - m.length < lv.length := by omega
            have := (goodB_at (ks' := lv[k - m.length]) (Nat.le_of_lt hkl) (fun _ _ => List.getElem?_eq_getElem hlt)).mp hg1 hmk
            rw [if_neg q] at this
            exact ⟨this.1, IH (k - m.length) (by omega) _ (List.getElem?_eq_getElem hlt) _ this.2⟩
        exact .step (mem_pairs.mp hx).1 hd (fun m hm hk => (get m hm hk).1) (fun m hm hk => (get m hm hk).2)
theorem level_full {c : Clk} (hg : Good c) {lv : List Lvl} (hc : Chain c (pairsOf c) lv) : ∀ k p s, Sure c k p s → Std c s → ∀ ks, lv[k]? = some ks → (p, s) ∈ ks := by
  intro k p s h
  induction h with
  | @done k p hp =>
    intro _ ks hk
    exact reach_start (hc k ks hk).1 _ (mem_startL.mpr ⟨hp, rfl⟩)
  | @step k p s d hp hd h1 h2 ih =>
    intro hs ks hk
    have hkl := (List.getElem?_eq_some_iff.mp hk).1
    rcases (hc k ks hk).2 (p, s) (mem_pairs.mpr ⟨hp, hs⟩) with z | z
    · exact z
    · exfalso
      have : d ∈ goodsOf c (lv.take k) ks (p, s) := by
        refine List.mem_filter.mpr ⟨hd, List.all_eq_true.mpr fun m hm => ?_⟩
        by_cases q : m = []
        · refine (goodB_at (ks' := []) (Nat.le_of_lt hkl) (fun h => absurd q h)).mpr fun hmk => ⟨h1 m hm hmk, ?_⟩
          rw [if_pos q]
          exact ih m hm hmk (std_doneM hs hd) ks (by rw [q]; exact hk)
        · have hp := List.length_pos_iff.mpr q
          have hlt : k - m.length < lv.length := by omega
          refine (goodB_at (ks' := lv[k - m.length]) (Nat.le_of_lt hkl) (fun _ _ => List.getElem?_eq_getElem hlt)).mpr fun hmk => ⟨h1 m hm hmk, ?_⟩
          rw [if_neg q]
          exact ih m hm hmk (std_doneM hs hd) _ (List.getElem?_eq_getElem hlt)
      rw [z] at this
      cases this
theorem level_iff {c : Clk} (hg : Good c) {lv : List Lvl} (hc : Chain c (pairsOf c) lv) {k p : Nat} {s : List Nat} {ks : Lvl} (hk : lv[k]? = some ks) (hs : Std c s) : (p, s) ∈ ks ↔ Sure c k p s := ⟨fun h => level_sound hc k ks hk _ h, fun h => level_full hg hc k p s h hs ks hk⟩
/-- fewer may be missed -/
theorem Sure.less {c : Clk} {k p : Nat} {s : List Nat} (h : Sure c k p s) : ∀ j, j ≤ k → Sure c j p s := by
  induction h with
  | done hp => exact fun j _ => .done hp
  | @step k p s d hp hd h1 h2 ih => exact fun j hj => .step hp hd (fun m hm hmj => h1 m hm (by omega)) fun m hm hmj => ih m hm (by omega) (j - m.length) (by omega)
end LC
end

section
set_option Elab.async false
set_option linter.all false
set_option maxRecDepth 100000
set_option maxHeartbeats 8000000
/-! G5: sure, most_misses. -/
namespace LW
open PySem PySem.Spec L2 DL LC QL
/-- what the class gives -/
structure GmK (P : Program) (w : World) (K : PySem.W.Frag) (mg : Str → Option Value) (base : Heap) (C : Addr) : Prop where
  gk : GK K C
  nm : mg "Game" = some (.ref C)
  init : ∃ (f : Addr) (fd : FuncData), Mk K C f ∧ FnOk P w K mg base CX0 2 f fd psIn (spIn P w K C) ∧ Binds K fd psIn []
  level : ∃ (f : Addr) (fd : FuncData), Meth K C "level" f ∧ FnOk P w K mg base CX0 7 f fd nLv (spLv P w K C) ∧ Binds K fd nLv []
theorem pairsOf_len {c : Clk} (hg : Good c) : (pairsOf c).length ≤ 1000 := by
  unfold pairsOf
  have h3 := hg.n3
  have h4 := hg.per4
  refine Nat.le_trans (flat_len 4 _ _ fun y hy => ?_) (show (stds c.eds).length * 4 ≤ 1000 from ?_)
  · rw [List.length_map, List.length_range]
    exact h4
  · have := stds_size hg.ed c.eds.length (Nat.le_refl _)
    rw [List.take_length] at this
    have h33 : 3 ^ c.eds.length ≤ 3 ^ 3 := Nat.pow_le_pow_right (by decide) h3
    omega
theorem keep_to_rm {H H' : Hp} {L : Addr} (k : Keep H H') (h : H L = none) : Keep H (rm L H') :=
  ⟨fun b o e n => by
    rw [rm_ne (ne_of_none e h)]
    exact k.obj b o e n, fun b ps e => by
    obtain ⟨ps', e', t⟩ := k.tab b ps e
    exact ⟨ps', by rw [rm_ne (ne_of_none e h)]; exact e', t⟩⟩
section
variable {P : Program} {w : World} {K : PySem.W.Frag} {mg : Str → Option Value} {base : Heap} {f : Addr} {fd : FuncData} {C : Addr}
/-- a new game, at its place -/
theorem game_new {Γ : En} {σ : St} {H1 : Hp} {vs : List V} {c : Clk} {Q : VK} {x dx : Addr} (hΓ : OnlyD Γ) (hg : Good c) (n1 : OkS K noZ σ Γ H1) (r1 : RVs K H1 [.d (eC c)] vs) (hx : H1 x = none) (hdx : H1 dx = none) (hne : dx ≠ x)
    (q : ∀ L H2, Keep H1 H2 → H1 L = none → OkS K noZ σ Γ H2 → GOn kE P w K C (eC c) [] ((pairsOf c).map eK) L H2 (.ref x) → Q .non H2) :
    spIn P w K C (.ref x :: (vs ++ [])) (upd (upd H1 dx (.own x)) x (.ins C dx [])) Q E0 := by
  obtain ⟨vc, r, e, h1, h2⟩ := r1
  have h2 : r = [] := h2
  subst e h2
  have hx2 : (upd H1 dx (.own x)) x = none := by rw [upd_ne (Ne.symm hne)]; exact hx
  have n2 : Nx K noZ σ Γ H1 (upd (upd H1 dx (.own x)) x (.ins C dx [])) := (Nx.new n1 hdx).trans (Nx.new (Nx.new n1 hdx).ok hx2)
  have kp2 := n2.kp
  rw [minus_id hΓ.no, minus_id hΓ.no] at kp2
  have tab : ∀ {H'}, OkS K noZ σ Γ H' → ∀ P ∈ tabs K, GxR.TabG H' P := fun k P hP => by
    have := k.tb P hP
    rwa [minus_id hΓ.no] at this
  refine ⟨x, dx, c, vc, hg, tab n2.ok, rfl, upd_same, Dn.k h1 kp2.tk, fun L H2 kp hL ht g => ?_⟩
  have k12 : Keep H1 H2 := by
    refine ⟨fun b o e n => kp.obj b o ?_ n, fun b ps e => kp.tab b ps ?_⟩
    · rw [rm_ne (ne_of_none e hx), upd_ne (ne_of_none e hx), upd_ne (ne_of_none e hdx)]
      exact e
    · rw [rm_ne (ne_of_none e hx), upd_ne (ne_of_none e hx), upd_ne (ne_of_none e hdx)]
      exact e
  exact q L H2 k12 (n2.free hL) (Nx.of_keep n1 k12).ok g
abbrev sSure : Stmt := topS 58
theorem scSure : FnScope nGame nGame (defScope sSure) := ⟨rfl, rfl, rfl, by decide +kernel, rfl, by decide +kernel, by decide +kernel⟩
open Classical in
noncomputable def sureB (c : Clk) (m p : Nat) (s : List Nat) : Bool := decide (Sure c m p s)
def pmSure : Pm := ⟨Clk × Nat × List Nat × Nat, fun (c, p, s, m) => [.d (eC c), .d (eN p), .d (eT s), .d (eN m)], fun (c, p, s, m) => Good c ∧ Std c s ∧ p < c.per ∧ m ≤ 12, fun (c, p, s, m) r => r = .d (.b (sureB c m p s))⟩
theorem ok_sure (M : GmK P w K mg base C) (GG4 : Df P w K mg base 5 "need_game" nGame pmGame) (F : Fun K "sure" "sure" sSure f fd) : FnOk P w K mg base CX0 9 f fd nGame (spP K pmSure) := by
  refine fn_ok F scSure (fun _ => rfl) (fun _ _ => by simp [pmSure]) (by decide) fun cdv A outer s H E ⟨c, p, st, m⟩ hr ⟨hg, hs, hp, hm⟩ => ?_
  show PSs _ _ (tS K [.d (eC c), .d (eN p), .d (eT st), .d (eN m)] _)
  have hu9 : (A.deeper (PyProof.Rows.envOfC "sure" (defScope sSure) s.heap.objs.size f cdv)).units + 9 < cLine := by have := hr.un; omega
  have hΓ : OnlyD [.d (eC c), .d (eN p), .d (eT st), .d (eN m)] := by
    intro s hs
    simp only [List.mem_cons, List.not_mem_nil, or_false] at hs
    rcases hs with rfl | rfl | rfl | rfl <;> simp
  refine js_cons (js_expr (jc GG4 (c, p, st, m) hr (by decide) (ja_cons (jv 0) (ja_cons (jv 1) (ja_cons (jv 2) (ja_cons (jv 3) ja_nil)))) ⟨hg, hs, hp, hm⟩ fun r h => h) ?_)
  obtain ⟨fi, fdi, MK, FI, bi⟩ := M.init
  obtain ⟨fl, fdl, ML, FL, bl⟩ := M.level
  refine js_one (ps_imp (ps_ret (pe_cmp (pc_nin (E := kE) hu9 (je_tup (K := K) (Γ := [.d (eC c), .d (eN p), .d (eT st), .d (eN m)]) (ds := [eN p, eT st]) (ja_cons (jv 1) (ja_cons (jv 2) ja_nil)))
    (pe_meth (k := 7) (dvs := []) (pe_make (k := 2) (dvs := []) MK FI (hr.mono (by decide)) rfl M.nm bi .nil pass0 (ja_cons (K := K) (Γ := [.d (eC c), .d (eN p), .d (eT st), .d (eN m)]) (jv 0) ja_nil)) M.gk.cls ML FL (hr.mono (by decide)) bl .nil pass0 (pa_cons (pe_var (i := 3) (x := "misses") rfl (Or.inl rfl)) pa_nil))) rfl)) fun D σ H' ⟨H0, ok, _, h2, _⟩ => ?_)
  refine ⟨noZ, ok.toOkS, fun y H1 n1 r1 => ⟨noZ, n1.ok, fun vs H2 n2 r2 => fun x dx hx hdx hne => ?_⟩⟩
  have kp12 := n2.kp
  rw [minus_id hΓ.no, minus_id hΓ.no] at kp12
  rw [minus_id hΓ.no] at r1 r2
  refine game_new hΓ hg n2.ok r2 hx hdx hne fun L H3 kp3 hL k3 g => ⟨rfl, ?_⟩
  obtain ⟨a, dx', vc, Pa, e, hins⟩ := g.ins
  refine ⟨a, dx', _, e, hins, NoFld.get ⟨by decide, by decide, by decide⟩, ?_⟩
  obtain ⟨v3, e3, z, ez, r3⟩ := k3.sl 3 _ rfl
  have r3 : z = V.int m := r3
  subst ez r3
  refine ⟨_, e3, c, [], pairsOf c, L, m, .ref x, hg, pairsOf_len hg, fun y hy => (mem_pairs.mp hy).2, hm, Nat.zero_le _, fun i ks e => by simp at e, ?_, rfl, g, fun lv' ks H4 u kp4 ht4 g4 hch hl4 hks hn => ?_⟩
  · intro P hP
    have := k3.tb P hP
    rwa [minus_id hΓ.no] at this
  have k24 : Keep H2 H4 := (keep_to_rm kp3 hL).trans kp4
  obtain ⟨d, es, eu, hd, hka⟩ := hn
  have r1 : Dn K H1 (kE.e (p, st)) y := r1
  obtain ⟨bb, eb⟩ := ekey r1
  subst eb eu
  refine ⟨bb, d, es, ks, (p, st), rfl, rfl, hd, hka, Dn.k r1 (kp12.tk.trans k24.tk), ?_⟩
  have ok4 := ((ok.nx n1).nx n2).nx (Nx.of_keep n2.ok k24)
  refine h2 _ σ H4 (.d (.b (sureB c m p st))) _ rfl ok4 ?_
  show V.bl _ = V.bl _
  congr 1
  rw [if_neg Bool.false_ne_true]
  unfold sureB
  exact decide_eq_decide.mpr (level_iff hg hch hks hs)
end
end LW
end

section
set_option Elab.async false
set_option linter.all false
set_option maxRecDepth 100000
set_option maxHeartbeats 8000000
/-! G6: most_misses. -/
namespace DL
open PySem PySem.Spec L2 QL LW
section
variable {X : Cx} {Γ : En} {body : List Stmt} {tg e : Expr} {pos : Pos} {ds : List D} {Ψ : Out → Prop} {L : Addr} {K : PySem.W.Frag} {H H1 : Hp} {σ : St} {vs : List V}
theorem minus_hid (h : ∀ c, Sl.o c ∉ Γ) : minus (· = L) σ Γ H = rm L H := by
  funext b
  unfold minus rm
  by_cases q : b = L
  · rw [if_pos q, if_pos (.inl q)]
  · rw [if_neg q, if_neg]
    rintro (z | ⟨i, c, h1, _⟩)
    · exact q z
    · exact h c (List.mem_of_getElem? h1)
theorem tk_rm (h : H L = some (.lst vs)) : TK H (rm L H) := fun b o e hi => by
  have ne : b ≠ L := fun q => by
    subst q
    rw [h] at e
    cases e
    cases hi
  rw [rm_ne ne]
  exact e
theorem OkS.hidL (hΓ : OnlyD Γ) (k : OkS K noZ σ Γ H) (h : H L = some (.lst vs)) : OkS K (· = L) σ Γ H := by
  refine ⟨k.len, fun i s e => ?_, k.dist, fun b z => ?_, fun i c b e1 => absurd (List.mem_of_getElem? e1) (hΓ.no c), fun P hP => ?_⟩
  · obtain ⟨v, e1, q⟩ := k.sl i s e
    refine ⟨v, e1, ?_⟩
    rw [minus_id hΓ.no] at q
    rw [minus_hid hΓ.no]
    rcases hΓ _ (List.mem_of_getElem? e) with z | ⟨d, z⟩
    · subst z
      trivial
    · subst z
      obtain ⟨y, f, r⟩ := q
      exact ⟨y, f, r.k (tk_rm h)⟩
  · rw [z]
    exact ⟨_, h, rfl, rfl⟩
  · have := k.tb P hP
    rw [minus_id hΓ.no] at this
    rw [minus_hid hΓ.no]
    exact rm_tabG h rfl this
theorem js_forB {g : TG} {js : List Nat} {S : D → En → Option En} (i0 : Nat) (I : Nat → En → Prop) (hno : ∀ c, Sl.o c ∉ Γ) (hl0 : i0 < Γ.length) (hΓ : OnlyD (Γ.set i0 .u)) (hL : ∀ σ H, OkS X.K noZ σ Γ H → ∃ vs, H L = some (.lst vs)) (hp : PassesOwn (model X.prog X.w) X.A X.env X.xe) (hc : X.calm = true) (hi : PI X tg e (tI X.K (Γ.set i0 .u) ds)) (hg : PG X tg g) (hT : Tg X.K g js S) (h0 : I 0 Γ)
    (hs : ∀ i d Γ', ds[i]? = some d → I i Γ' → ∃ Γ'', S d Γ' = some Γ'' ∧ PSs X body (tSB (fun H0 => H0 L = none) X.K Γ'' (turnW (I (i + 1)) Ψ))) (hd : ∀ Γ', I ds.length Γ' → Ψ (.nx Γ')) (hf : ∀ x, foldedSetIterable e X.env x = pure x := by intro _; rfl) : PS X (.For tg e body [] pos) (tSB (fun H0 => H0 L = none) X.K Γ Ψ) := by
  refine ps_imp (ps_for hp hc hi hg (pss_ex (α := En × (Out → Prop)) (phi := fun q => PSs X body (tSB (fun H0 => H0 L = none) X.K q.1 q.2)) (t := fun q => tSB (fun H0 => H0 L = none) X.K q.1 q.2) fun _ h => h) hf) fun D σ H ⟨H0, b, ok, h1, h2, h3⟩ => ?_
  obtain ⟨vs, hLv⟩ := hL σ H ok.toOkS
  refine ⟨(· = L), OkS.hidL hΓ (ok_forget ok hl0).toOkS hLv, fun J H1 G Y n w hG hY => ?_⟩
  have hL1 : H1 L = some (.lst vs) := by rw [n.zs L rfl]; exact hLv
  have kr := n.kp
  rw [minus_hid hΓ.no, minus_hid hΓ.no] at kr
  have kHH : Keep H H1 := by
    refine ⟨fun b o e nt => ?_, fun b ps e => ?_⟩
    · by_cases q : b = L
      · subst q
        rw [hLv] at e
        cases e
        exact hL1
      · exact (rm_some (kr.obj b o (by rw [rm_ne q]; exact e) nt)).2
    · have q : b ≠ L := fun q => by
        subst q
        rw [hLv] at e
        cases e
      obtain ⟨ps', e', t⟩ := kr.tab b ps (by rw [rm_ne q]; exact e)
      exact ⟨ps', (rm_some e').2, t⟩
  have k1 : OkS X.K noZ σ Γ H1 := ok.toOkS.keep kHH
  have bs := ok.base
  rw [minus_id hno] at bs
  have b1 : Keep H0 (rm L H1) := keep_to_rm (bs.trans kHH) b
  have hGr : ∀ {H'}, Keep (rm L H1) H' → Keep (minus (· = L) σ (Γ.set i0 .u) H1) H' := fun k => by rw [minus_hid hΓ.no]; exact k
  refine for_it w (g := g) (tb := fun D σ H => ∃ q : En × (Out → Prop), PSs X body (tSB (fun H0 => H0 L = none) X.K q.1 q.2) ∧ tSB (fun H0 => H0 L = none) X.K q.1 q.2 D σ H) (fun i σ' H' => ∃ Γ', I i Γ' ∧ Ok X.K (rm L H1) noZ σ' Γ' H') ⟨Γ, h0, ⟨k1, by rw [minus_id hno]; exact rm_keep⟩⟩ (fun i σ' H' _ ⟨Γ', _, k⟩ => hG H' (hGr (k.base.trans minus_keep))) (fun i x σ' H' H2 hi' ⟨Γ', hI, k⟩ y => ?_) (fun σ' H' ⟨Γ', hI, k⟩ => h1 Γ' σ' H' (hd Γ' hI) ⟨k.toOkS, b1.trans k.base⟩)
  obtain ⟨ext, d, hds, hdn⟩ := hY i H' x H2 hi' (hGr (k.base.trans minus_keep)) y
  obtain ⟨Γ'', hS, hb⟩ := hs i d Γ' hds hI
  have k2 := k.nx (ext_nx k.toOkS ext)
  refine hT.run noZ σ' Γ' Γ'' H2 _ d x _ k2 (hdn.k k2.tk) hS fun σ2 _ k3 => ⟨(Γ'', turnW (I (i + 1)) Ψ), hb, rm L H1, rm_self, k3, fun Γ3 σ3 H3 q k4 => ⟨Γ3, q, k4⟩, fun Γ3 σ3 H3 r v q k4 rv => h2 Γ3 σ3 H3 r v q ⟨k4.toOkS, b1.trans k4.base⟩ ?_, fun Γ3 σ3 H3 q k4 => ⟨Γ3, q, k4⟩⟩
  cases r with
  | u => trivial
  | d d => exact rv
  | p p => exact rv
  | o c =>
    obtain ⟨a, ob, e1, e2, e3, e4⟩ := rv
    exact ⟨a, ob, e1, b1.free e2, e3, e4⟩
end
end DL
namespace DL
open PySem PySem.Spec L2 QL LW
theorem js_nilB {X : Cx} {B : Hp → Prop} {Γ : En} {Φ : Out → Prop} (h : Φ (.nx Γ)) : PSs X [] (tSB B X.K Γ Φ) := pss_imp pss_nil fun D σ H ⟨H0, b, ok, h1, _⟩ => h1 _ _ _ h ok
theorem ite_by {b : Bool} {A B : Prop} (h1 : b = true → A) (h2 : b = false → B) : if b = true then A else B := by
  cases b with
  | true => exact h1 rfl
  | false => exact h2 rfl
theorem js_ifB {X : Cx} {B : Hp → Prop} {Γ : En} {Ψ : Out → Prop} {c : Expr} {body orelse : List Stmt} {pos : Pos} {tc : TT} {α : Type} {phiA phiB : α → Prop} {ΓA : α → En} (hc : PT X c tc) (ha : ∀ x, phiA x → PSs X body (tSB B X.K (ΓA x) Ψ)) (hb : ∀ x, phiB x → PSs X orelse (tSB B X.K (ΓA x) Ψ))
    (w : ∀ D σ H, tSB B X.K Γ Ψ D σ H → tc σ H fun b H' => if b = true then (∃ x, phiA x ∧ tSB B X.K (ΓA x) Ψ D σ H') else ∃ x, phiB x ∧ tSB B X.K (ΓA x) Ψ D σ H') : PS X (.If c body orelse pos) (tSB B X.K Γ Ψ) := ps_imp (ps_if hc (pss_ex ha) (pss_ex hb)) w
end DL
namespace LW
open PySem PySem.Spec L2 DL LC QL
section
variable {P : Program} {w : World} {K : PySem.W.Frag} {mg : Str → Option Value} {base : Heap} {f : Addr} {fd : FuncData} {C : Addr}
abbrev sMost : Stmt := topS 59
abbrev nMost : List Str := ["clock", "phase", "standing", "game", "found", "misses"]
abbrev psMost : List Str := ["clock", "phase", "standing"]
theorem scMost : FnScope nMost psMost (defScope sMost) := ⟨rfl, rfl, rfl, by decide +kernel, rfl, by decide +kernel, by decide +kernel⟩
def mostD : Nat → D
  | 0 => .non
  | i + 1 => eN i
def pmMost : Pm := ⟨Clk × Nat × List Nat, fun (c, p, s) => [.d (eC c), .d (eN p), .d (eT s)], fun (c, p, s) => Good c ∧ Std c s ∧ p < c.per, fun (c, p, s) r => ∃ n, n ≤ 13 ∧ (∀ j, j < n → Sure c j p s) ∧ (n < 13 → ¬ Sure c n p s) ∧ r = .d (mostD n)⟩
abbrev gM (P : Program) (w : World) (K : PySem.W.Frag) (C : Addr) (c : Clk) (p : Nat) (st : List Nat) (L : Addr) (lv : List Lvl) (d : D) (x : Sl) : En := [.d (eC c), .d (eN p), .d (eT st), .p (gP kE P w K C (eC c) lv ((pairsOf c).map eK) L), .d d, x]
theorem ok_most {t12 : Tok} (B : Blt mg) (hMM : mg "MOST_MISSES" = some (.int 12 t12)) (M : GmK P w K mg base C) (GG : DfD P w K mg base 5 "need_game" nGame pmGame [.int 0]) (F : Fun K "most_misses" "most_misses" sMost f fd) : FnOk P w K mg base CX0 9 f fd psMost (spP K pmMost) := by
  refine fn_ok F scMost (fun _ => rfl) (fun _ _ => by simp [pmMost]) (by decide) fun cdv A outer s H E ⟨c, p, st⟩ hr ⟨hg, hs, hp⟩ => ?_
  show PSs _ _ (tS K [.d (eC c), .d (eN p), .d (eT st), .u, .u, .u] _)
  have hu9 : (A.deeper (PyProof.Rows.envOfC "most_misses" (defScope sMost) s.heap.objs.size f cdv)).units + 9 < cLine := by have := hr.un; omega
  have hΓ : OnlyD [.d (eC c), .d (eN p), .d (eT st), .u, .u, .u] := by
    intro s hs
    simp only [List.mem_cons, List.not_mem_nil, or_false] at hs
    rcases hs with rfl | rfl | rfl | rfl | rfl | rfl <;> simp
  refine js_cons (js_expr (jcD GG (c, p, st, 0) hr (by decide) (sl := [.d (eN 0)]) (fun B => ⟨_, _, rfl, rfl, rfl⟩) rfl (ja_cons (jv 0) (ja_cons (jv 1) (ja_cons (jv 2) ja_nil))) ⟨hg, hs, hp, Nat.zero_le _⟩ fun r h => h) ?_)
  obtain ⟨fi, fdi, MK, FI, bi⟩ := M.init
  obtain ⟨fl, fdl, ML, FL, bl⟩ := M.level
  refine pss_imp (pss_cons (ps_par (i := 3) (j := 4) rfl scMost.nd rfl rfl (by decide) rfl rfl (pa_cons (pe_make (k := 2) (dvs := []) MK FI (hr.mono (by decide)) rfl M.nm bi .nil pass0 (ja_cons (K := K) (Γ := [.d (eC c), .d (eN p), .d (eT st), .u, .u, .u]) (jv 0) ja_nil)) (pa_cons pe_non pa_nil)) rfl)
    (pss_ex (α := Addr) (phi := fun _ => True) (t := fun L => tSB (fun H0 => H0 L = none) K (gM P w K C c p st L [] .non .u) (fun o => match o with
      | .rt _ r => pmMost.R (c, p, st) r
      | .nx _ => pmMost.R (c, p, st) (.d .non)
      | .ct _ => False)) fun L _ => ?_)) fun D σ H ⟨H0, ok, h1, h2, h3⟩ => ?_
  · have hno : ∀ lv d x, (∀ c, x ≠ Sl.o c) → ∀ cc, Sl.o cc ∉ gM P w K C c p st L lv d x := fun lv d x hx cc => by
      simp only [gM, List.mem_cons, List.not_mem_nil, or_false]
      rintro (z | z | z | z | z | z) <;> first | exact hx cc z.symm | cases z
    refine js_consB (js_forB (L := L) (ds := nums (rng 0 13)) 3 (fun i Γ => ∃ lv x, (x = .u ∨ ∃ d, x = .d d) ∧ Chain c (pairsOf c) lv ∧ lv.length ≤ 20 ∧ (∀ j, j < i → Sure c j p st) ∧ Γ = gM P w K C c p st L lv (mostD i) x) (hno _ _ _ (fun _ => by simp)) (show 3 < 6 by decide) ?_ ?_ PassesOwn.never rfl (ji_is (ji_range1 (hi := 12 + 1) B.range (je_add (je_globI (x := "MOST_MISSES") rfl hMM) je_int) (by decide)) rfl) (pg_name scMost.nd rfl (Or.inl rfl)) (tg_name 5) ⟨[], .u, .inl rfl, fun i ks e => by simp at e, Nat.zero_le _, fun _ h => absurd h (Nat.not_lt_zero _), rfl⟩ (fun i dd Γ' hd hI => ?_) fun Γ' hI => ?_)
    · intro s hs
      simp only [gM, List.set_cons_succ, List.set_cons_zero, List.mem_cons, List.not_mem_nil, or_false] at hs
      rcases hs with rfl | rfl | rfl | rfl | rfl | rfl <;> simp
    · intro σ H k
      obtain ⟨v, e, u, e2, g⟩ := k.sl 3 _ rfl
      obtain ⟨_, _, _, _, _, _, _, _, _, ⟨vs, h, _⟩, _⟩ := g
      exact ⟨vs, (minus_some h).1⟩
    · obtain ⟨lv, x, hx, hch, hll, hsure, rfl⟩ := hI
      rw [show (13 : Int) = ((13 : Nat) : Int) from rfl, rng_nn, List.getElem?_map] at hd
      obtain ⟨i', hi', rfl⟩ := Option.map_eq_some_iff.mp hd
      have hi13 : i < 13 := by
        have := (List.getElem?_eq_some_iff.mp hi').1
        rwa [List.length_range] at this
      have ei : i' = i := by
        rw [List.getElem?_range hi13] at hi'
        exact (Option.some.inj hi').symm
      subst ei
      have no := hno lv (mostD i') (.d (eN i')) (fun _ => by simp)
      refine ⟨gM P w K C c p st L lv (mostD i') (.d (eN i')), rfl, ?_⟩
      refine js_consB (js_ifB (α := List Lvl) (phiA := fun _ => ¬ Sure c i' p st) (phiB := fun lv' => Chain c (pairsOf c) lv' ∧ lv'.length ≤ 20 ∧ Sure c i' p st) (ΓA := fun lv' => gM P w K C c p st L lv' (mostD i') (.d (eN i'))) (pt_cmp (pc_nni (E := kE) hu9 (je_tup (K := K) (Γ := gM P w K C c p st L lv (mostD i') (.d (eN i'))) (ds := [eN p, eT st]) (ja_cons (jv 1) (ja_cons (jv 2) ja_nil)))
        (pe_meth (k := 7) (dvs := []) (pe_var (i := 3) (x := "game") rfl (Or.inl rfl)) M.gk.cls ML FL (hr.mono (by decide)) bl .nil pass0 (pa_cons (pe_var (i := 5) (x := "misses") rfl (Or.inl rfl)) pa_nil))) rfl)
        (fun lv' hn => js_oneB (js_ofS (js_ret (jv 4) ?_)))
        (fun lv' ⟨hc', hl', hs'⟩ => js_nilB ?_) fun D σ H ⟨H0, b, ok, h1, h2, h3⟩ => ?_)
      · exact ⟨i', by omega, hsure, fun _ => hn, rfl⟩
      · refine js_oneB (js_ofS (js_set 4 scMost.nd (jv 5) ⟨lv', _, .inr ⟨_, rfl⟩, hc', hl', fun j hj => ?_, rfl⟩))
        by_cases q : j = i'
        · rw [q]
          exact hs'
        · exact hsure j (by omega)
      · refine ⟨noZ, ok.toOkS, fun y H1 n1 r1 => ?_⟩
        have k1 := n1.ok
        have kp1 := n1.kp
        have bs := ok.base
        rw [minus_id no, minus_id no] at kp1
        rw [minus_id no] at r1 bs
        obtain ⟨y0, s0, u0, t0, g0⟩ := k1.sl 0 _ rfl
        obtain ⟨y1, s1, u1, t1, g1⟩ := k1.sl 1 _ rfl
        obtain ⟨y2, s2, u2, t2, g2⟩ := k1.sl 2 _ rfl
        obtain ⟨y3, s3, u3, t3, g3⟩ := k1.sl 3 _ rfl
        obtain ⟨y4, s4, u4, t4, g4⟩ := k1.sl 4 _ rfl
        obtain ⟨y5, s5, u5, t5, g5⟩ := k1.sl 5 _ rfl
        rw [minus_id no] at g0 g1 g2 g3 g4 g5
        have g3' : GOn kE P w K C (eC c) lv ((pairsOf c).map eK) L H1 u3 := g3
        obtain ⟨a, dx, vc, Pa, ea, hins⟩ := g3'.ins
        have hLL : ∃ vs, H1 L = some (.lst vs) := by
          obtain ⟨_, _, _, _, _, _, _, _, _, ⟨vs, h, _⟩, _⟩ := g3'
          exact ⟨vs, h⟩
        obtain ⟨vsL, hLL⟩ := hLL
        have e5 : u5 = V.int i' := g5
        subst e5 t0 t1 t2 t3 t4 t5
        refine ⟨u3, s3, a, dx, _, ea, hins, NoFld.get ⟨by decide, by decide, by decide⟩, _, s5, c, lv, pairsOf c, L, i', u3, hg, pairsOf_len hg, fun y hy => (mem_pairs.mp hy).2, by omega, hll, hch, fun P hP => ?_, rfl, g3', fun lv' ks H4 u kp4 ht4 g9 hch' hl4 hks hn => ?_⟩
        · have := k1.tb P hP
          rwa [minus_id no] at this
        have tk14 : TK H1 H4 := (tk_rm hLL).trans kp4.tk
        obtain ⟨d, es, eu, hd, hka⟩ := hn
        have r1 : Dn K H1 (kE.e (p, st)) y := r1
        obtain ⟨bb, eb⟩ := ekey r1
        subst eb eu
        have no' := hno lv' (mostD i') (.d (eN i')) (fun _ => by simp)
        have ok4 : Ok K H0 noZ σ (gM P w K C c p st L lv' (mostD i') (.d (eN i'))) H4 := by
          refine ⟨⟨k1.len, fun i sl e => ?_, fun i j cc c' b e1 => absurd (List.mem_of_getElem? e1) (no' _), fun _ z => z.elim, fun i cc b e1 => absurd (List.mem_of_getElem? e1) (no' _), fun P hP => ?_⟩, ?_⟩
          · rw [minus_id no']
            match i, e with
            | 0, e => cases e; exact ⟨_, s0, _, rfl, Dn.k g0 tk14⟩
            | 1, e => cases e; exact ⟨_, s1, _, rfl, Dn.k g1 tk14⟩
            | 2, e => cases e; exact ⟨_, s2, _, rfl, Dn.k g2 tk14⟩
            | 3, e => cases e; exact ⟨_, s3, _, rfl, g9⟩
            | 4, e => cases e; exact ⟨_, s4, _, rfl, Dn.k g4 tk14⟩
            | 5, e => cases e; exact ⟨_, s5, _, rfl, rfl⟩
            | i + 6, e => simp [gM] at e
          · rw [minus_id no']
            exact ht4 P hP
          · rw [minus_id no']
            exact (keep_to_rm (bs.trans kp1) b).trans kp4
        refine ⟨bb, d, es, ks, (p, st), rfl, rfl, hd, hka, Dn.k r1 tk14, _, rfl, ?_⟩
        have hiff := level_iff (p := p) hg hch' hks hs
        refine ite_by (fun h => ?_) fun h => ?_
        · have q : (p, st) ∉ ks := by simpa using h
          exact ⟨lv', fun z => q (hiff.mpr z), H0, b, ok4, h1, h2, h3⟩
        · have q : (p, st) ∈ ks := by simpa using h
          exact ⟨lv', ⟨hch', hl4, hiff.mp q⟩, H0, b, ok4, h1, h2, h3⟩
    · obtain ⟨lv, x, hx, hch, hll, hsure, rfl⟩ := hI
      have e13 : (nums (rng 0 13)).length = 13 := by
        rw [show (13 : Int) = ((13 : Nat) : Int) from rfl, rng_nn, List.length_map, List.length_range]
      rw [e13] at hsure ⊢
      exact js_oneB (js_ofS (js_ret (jv 4) ⟨13, Nat.le_refl _, hsure, fun h => absurd h (Nat.lt_irrefl _), rfl⟩))
  · refine ⟨noZ, ok.toOkS, fun vs H1 n1 r1 => fun x dx hx hdx hne => ?_⟩
    rw [minus_id hΓ.no] at r1
    refine game_new hΓ hg n1.ok r1 hx hdx hne fun L H2 kp2 hL k2 g => ⟨rfl, .ref x, .non, rfl, L, trivial, H0, ?_, ?_, h1, h2, h3⟩
    · have bs := (ok.nx n1).base
      rw [minus_id hΓ.no] at bs
      exact bs.free hL
    · have ok2 := (ok.nx n1).nx (Nx.of_keep n1.ok kp2)
      have ok3 := ok2.setN (i := 3) (s := .p (gP kE P w K C (eC c) [] ((pairsOf c).map eK) L)) (v := some (.ref x)) (by rw [ok2.len]; exact (show 3 < 6 by decide)) (fun c => by simp) ⟨_, rfl, by rw [minus_id hΓ.no]; exact g⟩
      exact ok3.setN (i := 4) (s := .d .non) (v := some .non) (by rw [ok3.len]; exact (show 4 < 6 by decide)) (fun c => by simp) ⟨_, rfl, rfl⟩
end
end LW
end

section
set_option Elab.async false
set_option linter.all false
set_option maxRecDepth 100000
set_option maxHeartbeats 8000000
/-! H1: the law's own defs: _law_needed. -/
namespace LC
theorem lmax_snoc (l : List Nat) (x : Nat) : lmax (l ++ [x]) = max (lmax l) x := by
  induction l with
  | nil =>
    show max x (lmax []) = max (lmax []) x
    exact Nat.max_comm _ _
  | cons y l ih =>
    rw [List.cons_append, lmax_cons, lmax_cons, ih, Nat.max_assoc]
def needL (w e o : Nat) (l : List (Nat × Nat × Nat × Nat)) : Nat := lmax (((l.filter fun x => decide (x.1 = w) && decide (x.2.2.1 = o)).filter fun x => decide (x.2.1 ≤ e)).map fun x => x.2.2.2)
theorem needL_snoc (w e o : Nat) (l : List (Nat × Nat × Nat × Nat)) (x : Nat × Nat × Nat × Nat) : needL w e o (l ++ [x]) = if (x.1 = w ∧ x.2.2.1 = o) ∧ x.2.1 ≤ e ∧ needL w e o l < x.2.2.2 then x.2.2.2 else needL w e o l := by
  unfold needL
  rw [List.filter_append, List.filter_append, List.map_append]
  by_cases h1 : x.1 = w ∧ x.2.2.1 = o
  · by_cases h2 : x.2.1 ≤ e
    · have e1 : ([x].filter fun x => decide (x.1 = w) && decide (x.2.2.1 = o)) = [x] := by simp [h1.1, h1.2]
      have e2 : ([x].filter fun x => decide (x.2.1 ≤ e)) = [x] := by simp [h2]
      rw [e1, e2, List.map_cons, List.map_nil, lmax_snoc]
      split <;> rename_i h
      · omega
      · have : ¬ _ < x.2.2.2 := fun z => h ⟨h1, h2, z⟩
        omega
    · have e1 : ([x].filter fun x => decide (x.1 = w) && decide (x.2.2.1 = o)) = [x] := by simp [h1.1, h1.2]
      have e2 : ([x].filter fun x => decide (x.2.1 ≤ e)) = [] := by simp; omega
      rw [e1, e2, List.map_nil, List.append_nil, if_neg fun z => h2 z.2.1]
  · have e1 : ([x].filter fun x => decide (x.1 = w) && decide (x.2.2.1 = o)) = [] := by
      rw [List.filter_eq_nil_iff]
      intro y hy
      rw [List.mem_singleton.mp hy]
      simpa using fun a b => h1 ⟨a, b⟩
    rw [e1, List.filter_nil, List.map_nil, List.append_nil, if_neg fun z => h1 z.1]
end LC
namespace LW
open PySem PySem.Spec L2 DL LC QL
section
variable {P : Program} {w : World} {K : PySem.W.Frag} {mg : Str → Option Value} {base : Heap} {f : Addr} {fd : FuncData}
abbrev sLN : Stmt := topS 64
abbrev nLN : List Str := ["_law_clock", "_law_wheel", "_law_edition", "_law_other", "_law_least", "_law_i", "_law_a", "_law_j", "_law_b"]
abbrev psLN : List Str := ["_law_clock", "_law_wheel", "_law_edition", "_law_other"]
theorem scLN : FnScope nLN psLN (defScope sLN) := ⟨rfl, rfl, rfl, by decide +kernel, rfl, by decide +kernel, by decide +kernel⟩
def pmLN : Pm := ⟨Clk × Nat × Nat × Nat, fun (c, v, e, o) => [.d (eC c), .d (eN v), .d (eN e), .d (eN o)], fun _ => True, fun (c, v, e, o) r => r = .d (eN (needed c v e o))⟩
theorem ok_ln (F : Fun K "_law_needed" "_law_needed" sLN f fd) : FnOk P w K mg base CX0 1 f fd psLN (spP K pmLN) := by
  refine fn_ok F scLN (fun _ => rfl) (fun _ _ => by simp [pmLN]) (by decide) fun cdv A outer s H E ⟨c, v, e, o⟩ hr _ => ?_
  show PSs _ _ (tS K [.d (eC c), .d (eN v), .d (eN e), .d (eN o), .u, .u, .u, .u, .u] _)
  refine js_cons (js_set 4 (d := eN (needL v e o [])) scLN.nd je_int ?_)
  refine js_cons (js_for (ds := c.bk.map e4) (fun i Γ => ∃ a b c' d' : Sl, Γ = [.d (eC c), .d (eN v), .d (eN e), .d (eN o), .d (eN (needL v e o (c.bk.take i))), a, b, c', d']) PassesOwn.never rfl (ji_tup (je_ix (jv 0) je_int)) (pg_tup rfl (pgs_cons (pg_name scLN.nd rfl (Or.inl rfl)) (pgs_cons (pg_name scLN.nd rfl (Or.inl rfl)) (pgs_cons (pg_name scLN.nd rfl (Or.inl rfl)) (pgs_cons (pg_name scLN.nd rfl (Or.inl rfl)) pgs_nil))))) (tg_names [5, 6, 7, 8]) ⟨.u, .u, .u, .u, rfl⟩ (fun i dd Γ' hd hI => ?_) fun Γ' hI => ?_)
  · obtain ⟨a, b, c', d', rfl⟩ := hI
    rw [List.getElem?_map] at hd
    obtain ⟨x, hx, rfl⟩ := Option.map_eq_some_iff.mp hd
    have et : c.bk.take (i + 1) = c.bk.take i ++ [x] := by rw [List.take_add_one, hx]; rfl
    rw [et, needL_snoc]
    generalize needL v e o (c.bk.take i) = le
    refine ⟨[.d (eC c), .d (eN v), .d (eN e), .d (eN o), .d (eN le), .d (eN x.1), .d (eN x.2.1), .d (eN x.2.2.1), .d (eN x.2.2.2)], rfl, ?_⟩
    refine js_one (js_if (x := decide ((x.1 = v ∧ x.2.2.1 = o) ∧ x.2.1 ≤ e ∧ le < x.2.2.2)) (jt_is (PW.pt (jw_and (jt_eqT (ns := [(x.1 : Int), (x.2.2.1 : Int)]) (ms := [(v : Int), (o : Int)]) hr.units (je_tup (ds := [eN x.1, eN x.2.2.1]) (ja_cons (jv 5) (ja_cons (jv 7) ja_nil))) (je_tup (ds := [eN v, eN o]) (ja_cons (jv 1) (ja_cons (jv 3) ja_nil)))) fun _ => jw_and (jt_le (jv 6) (jv 2)) fun _ => jw_and1 (jt_gt (jv 8) (jv 4)))) ?_) (fun z => js_one (js_set 4 scLN.nd (jv 8) ?_)) fun z => js_nil ?_)
    · rw [Bool.eq_iff_iff]
      simp only [Bool.and_eq_true, decide_eq_true_iff, List.cons.injEq, and_true, Int.ofNat_inj, Int.ofNat_le, Int.ofNat_lt]
    · have z := of_decide_eq_true z
      rw [if_pos z]
      exact ⟨_, _, _, _, rfl⟩
    · have z := of_decide_eq_false z
      rw [if_neg z]
      exact ⟨_, _, _, _, rfl⟩
  · obtain ⟨a, b, c', d', rfl⟩ := hI
    refine js_one (js_ret (jv 4) ?_)
    show Sl.d _ = Sl.d _
    rw [List.length_map, List.take_length]
    rfl
end
end LW
end

section
set_option Elab.async false
set_option linter.all false
set_option maxRecDepth 100000
set_option maxHeartbeats 8000000
/-! H2: _law_bad. -/
namespace LC
def badL (c : Clk) (s : List Nat) (p : Nat) (l : List (Nat × Nat × Nat)) : List (Nat × Nat) := ((l.filter fun t => decide (t.1 = p)).map fun t => t.2).filter fun x => !fitB c s x
theorem badL_snoc (c : Clk) (s : List Nat) (p : Nat) (l : List (Nat × Nat × Nat)) (x : Nat × Nat × Nat) : badL c s p (l ++ [x]) = badL c s p l ++ if x.1 = p ∧ fitB c s x.2 = false then [x.2] else [] := by
  unfold badL
  rw [List.filter_append, List.map_append, List.filter_append]
  congr 1
  by_cases h : x.1 = p
  · cases q : fitB c s x.2 <;> simp [h, q]
  · simp [h]
end LC
namespace LW
open PySem PySem.Spec L2 DL LC QL
section
variable {P : Program} {w : World} {K : PySem.W.Frag} {mg : Str → Option Value} {base : Heap} {f : Addr} {fd : FuncData}
abbrev sLB : Stmt := topS 65
abbrev nLB : List Str := ["_law_clock", "_law_standing", "_law_tick", "_law_found", "_law_phase", "_law_one", "_law_other", "_law_low"]
abbrev psLB : List Str := ["_law_clock", "_law_standing", "_law_tick"]
theorem scLB : FnScope nLB psLB (defScope sLB) := ⟨rfl, rfl, rfl, by decide +kernel, rfl, by decide +kernel, by decide +kernel⟩
def pmLB (K : PySem.W.Frag) : Pm := ⟨Clk × List Nat × Nat, fun (c, s, p) => [.d (eC c), .d (eT s), .d (eN p)], fun (c, s, p) => Good c ∧ s.length = c.eds.length ∧ p < c.per, fun (c, s, p) r => r = .o (cl K ((notFit c s p).map e2))⟩
theorem ok_lb (B : Blt mg) (GN : Df P w K mg base 1 "_law_needed" psLN pmLN) (F : Fun K "_law_bad" "_law_bad" sLB f fd) : FnOk P w K mg base CX0 2 f fd psLB (spP K (pmLB K)) := by
  refine fn_ok F scLB (fun _ => rfl) (fun _ _ => by simp [pmLB]) (by decide) fun cdv A outer s H E ⟨c, st, p⟩ hr ⟨hg, hl, hp⟩ => ?_
  show PSs _ _ (tS K [.d (eC c), .d (eT st), .d (eN p), .u, .u, .u, .u, .u] _)
  refine js_cons (js_setF 3 (P := (· = cl K ((badL c st p []).map e2))) scLB.nd (je_lst (ds := []) ja_nil) fun cc hc => ?_)
  subst hc
  refine js_cons (js_for (ds := c.tch.map e3) (fun i Γ => ∃ a b c' : Sl, ∃ lo : Sl, (lo = .u ∨ ∃ d, lo = .d d) ∧ Γ = [.d (eC c), .d (eT st), .d (eN p), .o (cl K ((badL c st p (c.tch.take i)).map e2)), a, b, c', lo]) PassesOwn.never rfl (ji_tup (je_ix (jv 0) je_int)) (pg_tup rfl (pgs_cons (pg_name scLB.nd rfl (Or.inl rfl)) (pgs_cons (pg_name scLB.nd rfl (Or.inl rfl)) (pgs_cons (pg_name scLB.nd rfl (Or.inl rfl)) pgs_nil)))) (tg_names [4, 5, 6]) ⟨.u, .u, .u, .u, .inl rfl, rfl⟩ (fun i dd Γ' hd hI => ?_) fun Γ' hI => ?_)
  · obtain ⟨a, b, c', lo, hlo, rfl⟩ := hI
    rw [List.getElem?_map] at hd
    obtain ⟨x, hx, rfl⟩ := Option.map_eq_some_iff.mp hd
    have hxv := hg.tv x (List.mem_of_getElem? hx)
    have hi := (List.getElem?_eq_some_iff.mp hx).1
    have hlb : (badL c st p (c.tch.take i)).length ≤ 20 := by
      unfold badL
      refine Nat.le_trans (List.length_filter_le _ _) ?_
      rw [List.length_map]
      refine Nat.le_trans (List.length_filter_le _ _) ?_
      rw [List.length_take]
      have := hg.tn
      omega
    have et : c.tch.take (i + 1) = c.tch.take i ++ [x] := by rw [List.take_add_one, hx]; rfl
    rw [et, badL_snoc]
    generalize badL c st p (c.tch.take i) = acc at hlb
    refine ⟨[.d (eC c), .d (eT st), .d (eN p), .o (cl K (acc.map e2)), .d (eN x.1), .d (eN x.2.1), .d (eN x.2.2), lo], rfl, ?_⟩
    have i1 : L2.atI (nums (nn st)) ((x.2.1 : Nat) : Int) = some (eN (at_ st x.2.1)) := ix_nn (by omega)
    have i2 : L2.atI (nums (nn st)) ((x.2.2 : Nat) : Int) = some (eN (at_ st x.2.2)) := ix_nn (by omega)
    refine js_one (js_if (x := decide (x.1 = p)) (jt_is (jt_eqI (jv 4) (je_is (je_mod (y := (c.per : Int)) (by omega) (je_intI B.int (jv 2)) (je_ix (jv 0) je_int)) (show D.i _ = D.i (p : Int) from ?_))) ?_) (fun z => ?_) fun z => js_nil ?_)
    · congr 1
      exact Int.emod_eq_of_lt (by omega) (by omega)
    · rw [Bool.eq_iff_iff]
      simp only [decide_eq_true_iff, Int.ofNat_inj]
    · have z := of_decide_eq_true z
      refine js_cons (js_set 7 scLB.nd (je_lt (je_ix (jv 1) (jv 6) i2) (jc GN (c, x.2.1, at_ st x.2.1, x.2.2) hr (by decide) (ja_cons (jv 0) (ja_cons (jv 5) (ja_cons (je_ix (jv 1) (jv 5) i1) (ja_cons (jv 6) ja_nil)))) trivial fun r h => h)) ?_)
      refine js_one (js_if (x := !fitB c st x.2) (jt_is (PW.pt (jw_or (y := decide (at_ st x.2.1 < needed c x.2.2 (at_ st x.2.2) x.2.1)) (jt_val (jv 7)) fun _ => jw_or1 (jt_is (jt_lt (je_ix (jv 1) (jv 5) i1) (jc GN (c, x.2.2, at_ st x.2.2, x.2.1) hr (by decide) (ja_cons (jv 0) (ja_cons (jv 6) (ja_cons (je_ix (jv 1) (jv 6) i2) (ja_cons (jv 5) ja_nil)))) trivial fun r h => h)) ?_))) ?_) (fun q => js_one (js_append 3 (d := e2 x.2) rfl (je_tup (ds := [eN x.2.1, eN x.2.2]) (ja_cons (jv 5) (ja_cons (jv 6) ja_nil))) (by rw [List.length_map]; omega) ?_ (hw := pe_bm PySem.F.plainAttrs_list PySem.F.slot_list_append PySem.F.type_list_append mt_append (pv 3) (pa_cons (je_tup (ds := [eN x.2.1, eN x.2.2]) (ja_cons (jv 5) (ja_cons (jv 6) ja_nil))) pa_nil)))) fun q => js_nil ?_)
      · exact decide_eq_decide.mpr Int.ofNat_lt
      · unfold fitB
        rw [Bool.eq_iff_iff]
        simp only [Bool.or_eq_true, Bool.not_eq_true', Bool.and_eq_false_iff, decide_eq_true_iff, decide_eq_false_iff_not, Int.ofNat_lt, Nat.not_le]
      · have q : fitB c st x.2 = false := by simpa using q
        refine ⟨.d (eN x.1), .d (eN x.2.1), .d (eN x.2.2), .d (.b (decide (((at_ st x.2.2 : Nat) : Int) < ((needed c x.2.1 (at_ st x.2.1) x.2.2 : Nat) : Int)))), .inr ⟨_, rfl⟩, ?_⟩
        rw [if_pos ⟨z, q⟩, List.map_append]
        rfl
      · have q : fitB c st x.2 = true := by simpa using q
        refine ⟨.d (eN x.1), .d (eN x.2.1), .d (eN x.2.2), .d (.b (decide (((at_ st x.2.2 : Nat) : Int) < ((needed c x.2.1 (at_ st x.2.1) x.2.2 : Nat) : Int)))), .inr ⟨_, rfl⟩, ?_⟩
        rw [if_neg (fun h => Bool.noConfusion (q.symm.trans h.2)), List.append_nil]
        rfl
    · have z := of_decide_eq_false z
      refine ⟨.d (eN x.1), .d (eN x.2.1), .d (eN x.2.2), lo, hlo, ?_⟩
      rw [if_neg fun h => z h.1, List.append_nil]
  · obtain ⟨a, b, c', lo, _, rfl⟩ := hI
    refine js_one (js_retO 3 rfl ?_)
    show Sl.o _ = Sl.o _
    rw [List.length_map, List.take_length]
    rfl
end
end LW
end

section
set_option Elab.async false
set_option linter.all false
set_option maxRecDepth 100000
set_option maxHeartbeats 8000000
/-! H3: isinstance with a tuple of two types; _law_alike on two bools. -/
namespace DL
open PySem PySem.Spec L2 QL
section
variable {X : Cx} {Γ : En} {e : Expr} {d : D} {pos p p2 p3 p4 : Pos} {kt : Nat}
theorem je_isiT2 {r : Bool} (hm : X.mg "isinstance" = none) (h1 : X.mg "tuple" = none) (h2 : X.mg "list" = none) (ha : PE X e (tR X.K Γ (.d d))) (hk : PySem.W.kitAny X.K (.type (tyN d)) [.type "tuple", .type "list"] = some r) (hg : Gl X "isinstance" := by rfl) (hg1 : Gl X "tuple" := by rfl) (hg2 : Gl X "list" := by rfl)
    (he : starEach [e, .Tuple [.Name "tuple" p2, .Name "list" p3] kt p4] X.env = (false, eval e X.env) :: starEach [.Tuple [.Name "tuple" p2, .Name "list" p3] kt p4] X.env := by rfl) (he2 : starEach [.Tuple [.Name "tuple" p2, .Name "list" p3] kt p4] X.env = (false, eval (.Tuple [.Name "tuple" p2, .Name "list" p3] kt p4) X.env) :: starEach [] X.env := by rfl)
    (he3 : starEach [.Name "tuple" p2, .Name "list" p3] X.env = (false, eval (.Name "tuple" p2) X.env) :: starEach [.Name "list" p3] X.env := by rfl) (he4 : starEach [.Name "list" p3] X.env = (false, eval (.Name "list" p3) X.env) :: starEach [] X.env := by rfl)
    (hpl : (backTo pos (starEach [.Tuple [.Name "tuple" p2, .Name "list" p3] kt p4] X.env)).any (·.1) = false := by rfl) : PE X (.Call (.Name "isinstance" p) [e, .Tuple [.Name "tuple" p2, .Name "list" p3] kt p4] [] pos) (tR X.K Γ (.d (.b r))) :=
  pe_imp (pe_callB call_isiT hg hm (by decide +kernel) (pa_cons ha (pa_cons (pe_tup (pa_cons (pe_bltn (v := .ty "tuple") hg1 h1 (by decide +kernel) rfl (by decide) (by decide)) (pa_cons (pe_bltn (v := .ty "list") hg2 h2 (by decide +kernel) rfl (by decide) (by decide)) pa_nil he4) he3)) pa_nil he2) he) (by decide) (by decide) he hpl) fun σ H Q ⟨Z, k, q⟩ => ⟨Z, k, fun v H1 n r1 => ⟨by decide, fun t ht => by
    have n2 : Nx X.K Z σ Γ H1 (upd H1 t (.tup [.ty "tuple", .ty "list"])) := Nx.new n.ok ht
    exact ⟨v, t, [.ty "tuple", .ty "list"], _, [.type "tuple", .type "list"], r, rfl, upd_same, .cons (.ty _) (.cons (.ty _) .nil), tyX_of (Dn.k (Dn.k r1 n2.kp.tk) minus_keep.tk), hk, q _ _ (n.trans n2) rfl⟩⟩⟩
end
end DL
namespace LW
open PySem PySem.Spec L2 DL LC QL
section
variable {P : Program} {w : World} {K : PySem.W.Frag} {mg : Str → Option Value} {base : Heap} {f : Addr} {fd : FuncData}
abbrev sLA : Stmt := topS 68
abbrev nLA : List Str := ["_law_found", "_law_wished", "_law_k"]
abbrev psLA : List Str := ["_law_found", "_law_wished"]
theorem scLA : FnScope nLA psLA (defScope sLA) := ⟨rfl, rfl, rfl, by decide +kernel, rfl, by decide +kernel, by decide +kernel⟩
def pmLA : Pm := ⟨Bool × Bool, fun (x, y) => [.d (.b x), .d (.b y)], fun _ => True, fun (x, y) r => r = .d (.b (x == y))⟩
theorem ok_la (B : Blt mg) (F : Fun K "_law_alike" "_law_alike" sLA f fd) : FnOk P w K mg base CX0 1 f fd psLA (spP K pmLA) := by
  refine fn_ok F scLA (fun _ => rfl) (fun _ _ => by simp [pmLA]) (by decide) fun cdv A outer s H E ⟨x, y⟩ hr _ => ?_
  show PSs _ _ (tS K [.d (.b x), .d (.b y), .u] _)
  refine js_cons (js_ifN (jt_val (je_isiT2 B.isi B.tuple B.list (jv 1) rfl)) ?_)
  refine js_cons (js_ifN (jt_is (PW.pt (jw_or (y := false) (jt_isND (jv 1)) fun _ => jw_or1 (jt_val (je_isi (T := "str") B.isi B.str (by decide +kernel) (jv 1) rfl)))) rfl) ?_)
  refine js_one (js_ret (je_and (je_isi (T := "int") B.isi B.int (by decide +kernel) (jv 0) rfl) fun _ => je_and (je_cmp op_eq o2_eqB (je_isi (T := "bool") B.isi B.bool (by decide +kernel) (jv 0) kit_same) (je_isi (T := "bool") B.isi B.bool (by decide +kernel) (jv 1) kit_same) (nomark _)) fun _ => je_one (je_cmp op_eq o2_eqB (jv 0) (jv 1) (nomark _))) ?_)
  show Sl.d _ = Sl.d _
  cases x <;> cases y <;> rfl
end
end LW
end

section
set_option Elab.async false
set_option linter.all false
set_option maxRecDepth 100000
set_option maxHeartbeats 8000000
/-! H4: tuple.count. -/
namespace L2
open PySem PySem.Spec PyProof.Rows
section
variable {X : Cx}
def rCntT (K : PySem.W.Frag) : V → List V → Hp → VK → Prop := fun x xs H Q => ∃ (p : Addr) (ns : List Int) (k : Int), x = .ref p ∧ xs = [.int k] ∧ SqT K H p (ns.map V.int) ∧ Q (.int (ns.count k : Nat)) H
theorem mt_tcount : MtR X "tuple.count" (rCntT X.K) := by
  intro pins s σ H x xs v us Q I rx rxs h
  obtain ⟨p, ns, k, rfl, rfl, hs, q⟩ := h
  cases rx
  obtain ⟨u, rfl, ru⟩ := rxs.one
  obtain ⟨t, rfl⟩ := ru
  obtain ⟨its, rv, ⟨⟨cls, dd, data, sl⟩, ho, hc, n, hd⟩, hlen⟩ := I.tuple hs
  simp only at hc hd
  subst hc hd
  have hi := ints_of_vals rv
  refine call_meets PySem.F.slot_tuple_count ⟨_, ho, rfl⟩ PySem.F.entry_tuple_count (PySem.F.args_tuple_count_2 _ _)
    (SeqAt.tuple_countAt p its.toArray n dd sl (.int k t) (eqk k)) ⟨ho, fun y hy => (eqk_gives hi y (by simpa using hy)).at _ _, ?_⟩
  have ec : its.toArray.toList.countP (eqk k) = ns.count k := eqk_count hi
  refine ⟨.int (ns.count k : Nat), H, I.tok _, ⟨s.toks, ?_⟩, q⟩
  show Value.int ((its.toArray.toList.countP (eqk k) : Nat) : Int) s.toks = Value.int ((ns.count k : Nat) : Int) s.toks
  rw [ec]
end
end L2
end

section
set_option Elab.async false
set_option linter.all false
set_option maxRecDepth 100000
set_option maxHeartbeats 4000000
/-! J0: owned lists read and written by place, pinned cells, the script, great ints. -/
namespace DL
open PySem PySem.Spec L2
/-- a cell that stands at A -/
def pinC (A : Addr) (c : Ct) : Ct := ⟨fun b o H => b = A ∧ c.on b o H, fun b o H H' k ⟨e, h⟩ => ⟨e, c.mono b o H H' k h⟩, fun b o H ⟨_, h⟩ => c.mu b o H h⟩
/-- some cell with P -/
def exC {ix : Type} (P : ix → Prop) (c : ix → Ct) : Ct := ⟨fun b o H => ∃ i, P i ∧ (c i).on b o H, fun b o H H' k ⟨i, h, q⟩ => ⟨i, h, (c i).mono b o H H' k q⟩, fun b o H ⟨i, _, q⟩ => (c i).mu b o H q⟩
section
variable {X : Cx} {K : PySem.W.Frag} {Γ : En} {a b c e : Expr} {pos p p' p3 : Pos} {s : Sl} {d : D} {ds : List D} {Ψ : Out → Prop} {x : Str} {A : Addr} {ns : List Int}
/-- the script, as a list that stays -/
theorem je_sp (h : PE X e (tR K Γ (.d (.s ns)))) : PE X e (tR K Γ (.p (pl K (nums ns)))) :=
  pe_imp h fun σ H Q ⟨Z, k, q⟩ => ⟨Z, k, fun v H' n r => by
    obtain ⟨a, e, hs⟩ := r
    exact q v H' n ⟨a, _, e, hs.seq, nums_dns⟩⟩
theorem je_fdiv {x y : Int} (hc : 0 < y ∧ y < 2 ^ 64) (ha : PE X a (tR K Γ (.d (.i x)))) (hb : PE X b (tR K Γ (.d (.i y)))) : PE X (.BinOp a .FloorDiv b pos) (tR K Γ (.d (.i (x / y)))) :=
  je_op op_fdivW (o2_I (wide_div (b := 64) hc.1 (by omega) (by decide) (by decide))) ha hb
theorem je_pow {x y : Int} (hc : CPow x y) (ha : PE X a (tR K Γ (.d (.i x)))) (hb : PE X b (tR K Γ (.d (.i y)))) : PE X (.BinOp a .Pow b pos) (tR K Γ (.d (.i (x ^ y.toNat)))) := je_op op_pow (o2_I hc) ha hb
/-- xs[j], xs an owned list -/
theorem je_ixO (i : Nat) {j : Int} (hv : Γ[i]? = some (.o (cl X.K ds))) (hb : PE X b (tR X.K Γ (.d (.i j)))) (h : L2.atI ds j = some d := by rfl) (hs : PlainIx b := by exact fun _ _ => rfl) (hN : X.N[i]? = some x := by rfl) (hx : Vis X.env.scope x := by first | exact Or.inl rfl | exact Or.inr (Or.inl rfl) | exact Or.inr (Or.inr rfl))
    (hd : (x == ("__debug__" : Str)) = false := by decide) (hcd : (x == ("__classdict__" : Str)) = false := by decide) : PE X (.Subscript (.Name x p') b pos) (tR X.K Γ (.d d)) :=
  pe_imp (pe_ix ix_list (pe_var hN hx hd hcd) hb hs) fun σ H Q ⟨Z, k, q⟩ => by
    obtain ⟨v, e1, a, ob, e2, e3, ws, e4, e5⟩ := k.sl i _ hv
    subst e2 e4
    refine ⟨.ref a, e1, Z, k, fun y H2 n r => ?_⟩
    obtain ⟨v', f1, a', ob', f2, f3, ws', f4, f5⟩ := n.ok.sl i _ hv
    rw [e1] at f1
    cases f1
    cases f2
    subst f4
    obtain ⟨v, h4, h5⟩ := f5.atI h
    exact ⟨a, ws', j, v, rfl, r, SqL.of f3, h4, q v H2 n h5⟩
/-- the same of a pinned one -/
theorem je_ixP (i : Nat) {j : Int} (hv : Γ[i]? = some (.o (pinC A (cl X.K ds)))) (hb : PE X b (tR X.K Γ (.d (.i j)))) (h : L2.atI ds j = some d := by rfl) (hs : PlainIx b := by exact fun _ _ => rfl) (hN : X.N[i]? = some x := by rfl) (hx : Vis X.env.scope x := by first | exact Or.inl rfl | exact Or.inr (Or.inl rfl) | exact Or.inr (Or.inr rfl))
    (hd : (x == ("__debug__" : Str)) = false := by decide) (hcd : (x == ("__classdict__" : Str)) = false := by decide) : PE X (.Subscript (.Name x p') b pos) (tR X.K Γ (.d d)) :=
  pe_imp (pe_ix ix_list (pe_var hN hx hd hcd) hb hs) fun σ H Q ⟨Z, k, q⟩ => by
    obtain ⟨v, e1, a, ob, e2, e3, z, ws, e4, e5⟩ := k.sl i _ hv
    subst e2 e4
    refine ⟨.ref a, e1, Z, k, fun y H2 n r => ?_⟩
    obtain ⟨v', f1, a', ob', f2, f3, z', ws', f4, f5⟩ := n.ok.sl i _ hv
    rw [e1] at f1
    cases f1
    cases f2
    subst f4
    obtain ⟨v, h4, h5⟩ := f5.atI h
    exact ⟨a, ws', j, v, rfl, r, SqL.of f3, h4, q v H2 n h5⟩
theorem js_setItemP (i : Nat) {j : Int} {m : Nat} (hv : Γ[i]? = some (.o (pinC A (cl X.K ds)))) (he : PE X e (tR X.K Γ (.d d))) (hj : PE X a (tR X.K Γ (.d (.i j)))) (h : Ψ (.nx (Γ.set i (.o (pinC A (cl X.K (ds.set m d))))))) (hm : ixN ds.length j = some m := by rfl) (hN : X.N[i]? = some x := by rfl) (hx : Vis X.env.scope x := by first | exact Or.inl rfl | exact Or.inr (Or.inl rfl) | exact Or.inr (Or.inr rfl))
    (hd : (x == ("__debug__" : Str)) = false := by decide) (hcd : (x == ("__classdict__" : Str)) = false := by decide) (hs : swapsWithSole [.Subscript (.Name x p') a p3] e pos.line X.env = pure false := by rfl) (hw : swappedStores [.Subscript (.Name x p') a p3] e X.env = pure none := by rfl)
    (h1 : (assignEach [.Subscript (.Name x p') a p3] X.env).map (·.2) = [assign (.Subscript (.Name x p') a p3) X.env] := by rfl)
    (ha : ∀ v, assign (.Subscript (.Name x p') a p3) X.env v = (do
      let ov ← holding [v] (eval (.Name x p') X.env)
      let iv ← holding [v, ov] (eval a X.env)
      standAt p3
      holding [v, ov, iv] (setItem ov iv v)
      release [v, ov, iv] []) := by intro _; rfl) :
    PS X (.Assign [.Subscript (.Name x p') a p3] e pos) (tS X.K Γ Ψ) :=
  ps_imp (ps_asg he (pg_sub (pe_var hN hx hd hcd) hj set_list ha) hs hw h1) fun D σ H ⟨H0, ok, h1, _, _⟩ => by
    obtain ⟨v, e1, a, ob, e2, e3, z, ws, e4, e5⟩ := ok.sl i _ hv
    subst e2 e4
    refine ⟨noZ, ok.toOkS, fun w H1 n r => ⟨.ref a, e1, noZ, n.ok, fun u H2 n2 r2 => ?_⟩⟩
    obtain ⟨v', f1, a', ob', f2, f3, z', ws', f4, f5⟩ := n2.ok.sl i _ hv
    rw [e1] at f1
    cases f1
    cases f2
    subst f4
    refine ⟨a, ws', j, m, rfl, r2, f3, by rw [f5.len]; exact hm, ?_⟩
    exact h1 _ _ _ h ((ok.nx (n.trans n2)).write hv e1 ⟨z', _, rfl, f5.set m (Dn.k r n2.kp.tk)⟩)
/-- an owned cell's kind, said otherwise -/
theorem OkS.owv {Z : Hd} {σ : St} {H : Hp} {i : Nat} {c c' : Ct} (k : OkS K Z σ Γ H) (h : Γ[i]? = some (.o c)) (w : ∀ b o B, c.on b o B → c'.on b o B) : OkS K Z σ (Γ.set i (.o c')) H ∧ minus Z σ (Γ.set i (.o c')) H = minus Z σ Γ H := by
  have hl : i < Γ.length := (List.getElem?_eq_some_iff.mp h).1
  have em : minus Z σ (Γ.set i (.o c')) H = minus Z σ Γ H := minus_iff fun b => own_set_same h
  have back : ∀ {j : Nat} {d : Ct}, (Γ.set i (.o c'))[j]? = some (.o d) → ∃ d, Γ[j]? = some (.o d) := fun {j d} e => by
    by_cases hj : i = j
    · subst hj
      exact ⟨c, h⟩
    · rw [List.getElem?_set_ne hj] at e
      exact ⟨d, e⟩
  refine ⟨⟨by rw [List.length_set]; exact k.len, fun j s e => ?_, fun j l d d' b e1 e2 e3 e4 => ?_, k.zo, fun j d b e1 e2 => ?_, fun P hP => by rw [em]; exact k.tb P hP⟩, em⟩
  · rw [em]
    by_cases hj : i = j
    · subst hj
      rw [List.getElem?_set_self hl] at e
      cases e
      obtain ⟨v, e1, a, ob, e2, e3, q⟩ := k.sl i _ h
      exact ⟨v, e1, a, ob, e2, e3, w _ _ _ q⟩
    · rw [List.getElem?_set_ne hj] at e
      exact k.sl j s e
  · obtain ⟨_, q1⟩ := back e1
    obtain ⟨_, q2⟩ := back e2
    exact k.dist j l _ _ b q1 q2 e3 e4
  · obtain ⟨_, q1⟩ := back e1
    exact k.zd j _ b q1 e2
theorem js_owv {rest : List Stmt} (i : Nat) {c c' : Ct} (h : Γ[i]? = some (.o c)) (w : ∀ b o B, c.on b o B → c'.on b o B) (r : PSs X rest (tS X.K (Γ.set i (.o c')) Ψ)) : PSs X rest (tS X.K Γ Ψ) := js_weak r fun H0 σ H ok => by
  obtain ⟨k, em⟩ := ok.toOkS.owv h w
  exact ⟨k, by rw [em]; exact ok.base⟩
end
end DL
end

section
set_option Elab.async false
set_option linter.all false
set_option maxRecDepth 100000
set_option maxHeartbeats 8000000
/-! J1: _law_taken. -/
namespace LW
open PySem PySem.Spec L2 DL LC QL
/-- the row's states: the script, how far, the seed, what is left of a great number -/
abbrev RowS := List Int × Int × Int × Int
def rowL (K : PySem.W.Frag) (q : RowS) : Ct := cl K [.s q.1, .i q.2.1, .i q.2.2.1, .i q.2.2.2]
def rowOk (q : RowS) : Prop := 0 ≤ q.2.1
def rowE (K : PySem.W.Frag) (A : Addr) : Ct := exC rowOk fun q => pinC A (rowL K q)
def rowQ (K : PySem.W.Frag) : Ct := exC rowOk (rowL K)
/-- a def that takes from the row -/
structure DfM (P : Program) (w : World) (K : PySem.W.Frag) (mg : Str → Option Value) (base : Heap) (k : Nat) (x : Str) (ps : List Str) (m : PmM) : Prop where
  ex : ∃ (f : Addr) (fd : FuncData), FnOk P w K mg base CX0 k f fd ps (spM K m) ∧ mg x = some (.ref f) ∧ PySem.W.keepIn K (.ref f) = true ∧ Binds K fd ps []
section
variable {P : Program} {w : World} {K : PySem.W.Frag} {mg : Str → Option Value} {base : Heap} {f : Addr} {fd : FuncData}
abbrev sTk : Stmt := topS 61
abbrev nTk : List Str := ["_law_row", "_law_many", "_law_found", "_law_cell"]
abbrev psTk : List Str := ["_law_row", "_law_many"]
theorem scTk : FnScope nTk psTk (defScope sTk) := ⟨rfl, rfl, rfl, by decide +kernel, rfl, by decide +kernel, by decide +kernel⟩
def pmTk (K : PySem.W.Frag) : PmM := ⟨RowS × Nat, fun q A => pinC A (rowL K q.1), fun q => [.d (eN q.2)], fun q => rowOk q.1 ∧ 0 < q.2 ∧ q.2 ≤ 1000, fun q r => ∃ k, k < q.2 ∧ r = eN k, fun _ A => rowE K A⟩
theorem mod_to {x : Int} {m : Nat} (h : 0 < m) : ∃ k : Nat, k < m ∧ D.i (x % (m : Int)) = eN k := by
  have h1 := Int.emod_nonneg x (show (m : Int) ≠ 0 by omega)
  have h2 := Int.emod_lt_of_pos x (show (0 : Int) < m by omega)
  exact ⟨(x % (m : Int)).toNat, by omega, by unfold eN; rw [Int.toNat_of_nonneg h1]⟩
theorem js_retW {X : Cx} {Γ : En} {e : Expr} {pos : Pos} {d : D} {Ψ : Out → Prop} {c c' : Ct} (i : Nat) (h : Γ[i]? = some (.o c)) (w : ∀ b o B, c.on b o B → c'.on b o B) (he : PE X e (tR X.K Γ (.d d))) (hr : Ψ (.rt (Γ.set i (.o c')) (.d d))) : PS X (.Return (some e) pos) (tS X.K Γ Ψ) :=
  ps_imp (ps_ret he) fun D σ H ⟨H0, ok, _, h2, _⟩ => ⟨noZ, ok.toOkS, fun v H' n r => by
    have ok2 := ok.nx n
    obtain ⟨k, em⟩ := ok2.toOkS.owv h w
    exact h2 _ _ _ _ v hr ⟨k, by rw [em]; exact ok2.base⟩ (Dn.k r minus_keep.tk)⟩
theorem ok_tk (B : Blt mg) (F : Fun K "_law_taken" "_law_taken" sTk f fd) : FnOk P w K mg base CX0 1 f fd psTk (spM K (pmTk K)) := by
  refine fn_okM F scTk (fun _ => rfl) (fun _ _ => by simp [pmTk]) (by decide) (fun _ _ _ _ _ ⟨_, _, h, _⟩ => h) fun cdv A outer s H E ⟨⟨ns, i, seed, big⟩, m⟩ a hr ⟨h0, hm, hm2⟩ => ?_
  have h0 : 0 ≤ i := h0
  have hm : 0 < m := hm
  have hm2 : m ≤ 1000 := hm2
  show PSs _ _ (tS K [.o (pinC a (cl K [.s ns, .i i, .i seed, .i big])), .d (eN m), .u, .u] _)
  refine js_cons (js_if (x := decide ((0 : Int) < big)) (jt_gt (je_ixP 0 rfl je_int) je_int) (fun z => ?_) fun z => js_nil ?_)
  · refine js_cons (js_set 2 scTk.nd (je_mod (show (0 : Int) < (m : Int) by omega) (je_intI B.int (je_ixP 0 rfl je_int)) (jv 1)) ?_)
    refine js_cons (js_setItemP 0 rfl (je_fdiv (show (0 : Int) < (m : Int) ∧ (m : Int) < 2 ^ 64 by omega) (je_ixP 0 rfl je_int) (jv 1)) je_int ?_)
    refine js_owv (c' := rowE K a) 0 rfl (fun b o B h => ⟨(ns, i, seed, big / m), h0, h⟩) ?_
    refine js_one (js_ret (jv 2) ⟨rfl, _, rfl, mod_to hm⟩)
  · refine js_cons (js_setItemP 0 rfl (je_add (je_ixP 0 rfl je_int) je_int) je_int ?_)
    refine js_cons (js_if (x := decide (((nums ns).length : Int) < i + 1)) (jt_gt (je_ixP 0 rfl je_int) (je_lenL B.len (je_sp (je_ixP 0 rfl je_int)))) (fun z => ?_) fun z => js_nil ?_)
    · refine js_cons (js_setItemP 0 rfl (je_mod (y := 2147483647) (by decide) (je_intI B.int (je_add (je_mul (y := 48271) (.inr (by decide)) (je_ixP 0 rfl je_int) je_int) je_int)) je_int) je_int ?_)
      refine js_one (js_retW (c' := rowE K a) 0 rfl (fun b o B h => ⟨(ns, i + 1, _, big), show 0 ≤ i + 1 by omega, h⟩) (je_mod (show (0 : Int) < (m : Int) by omega) (je_intI B.int (je_fdiv (y := 7) (by decide) (je_ixP 0 rfl je_int) je_int)) (jv 1)) ?_)
      exact ⟨rfl, _, rfl, mod_to hm⟩
    · have z : ¬ ((nums ns).length : Int) < i + 1 := of_decide_eq_false z
      obtain ⟨cell, hcell⟩ : ∃ cell, L2.atI (nums ns) (i + 1 - 1) = some (.i cell) := by
        unfold nums at z ⊢
        rw [List.length_map] at z
        obtain ⟨n, rfl⟩ := Int.eq_ofNat_of_zero_le h0
        rw [Int.add_sub_cancel]
        have hn : n < ns.length := by omega
        exact ⟨ns[n], atI_nat (by rw [List.getElem?_map, List.getElem?_eq_getElem hn]; rfl)⟩
      refine js_cons (js_set 3 scTk.nd (je_ixl (je_sp (je_ixP 0 rfl je_int)) (je_sub (je_ixP 0 rfl je_int) je_int) hcell) ?_)
      refine js_cons (js_setItemP 0 rfl (je_mod (y := 2147483647) (by decide) (je_intI B.int (je_add (je_add (je_mul (y := 48271) (.inr (by decide)) (je_ixP 0 rfl je_int) je_int) (jv 3)) je_int)) je_int) je_int ?_)
      refine js_cons (js_if (jt_ge (jv 3) (je_pow (show CPow 10 18 from ⟨by decide, by decide, by decide⟩) je_int je_int)) (fun q => js_one (js_setItemP 0 rfl (je_fdiv (show (0 : Int) < (m : Int) ∧ (m : Int) < 2 ^ 64 by omega) (jv 3) (jv 1)) je_int ?_)) fun q => js_nil ?_)
      · refine js_owv (c' := rowE K a) 0 rfl (fun b o B h => ⟨(ns, i + 1, _, _), show 0 ≤ i + 1 by omega, h⟩) (js_one (js_ret (je_mod (show (0 : Int) < (m : Int) by omega) (je_intI B.int (jv 3)) (jv 1)) ?_))
        exact ⟨rfl, _, rfl, mod_to hm⟩
      · refine js_owv (c' := rowE K a) 0 rfl (fun b o B h => ⟨(ns, i + 1, _, _), show 0 ≤ i + 1 by omega, h⟩) (js_one (js_ret (je_mod (show (0 : Int) < (m : Int) by omega) (je_intI B.int (jv 3)) (jv 1)) ?_))
        exact ⟨rfl, _, rfl, mod_to hm⟩
end
end LW
end

section
set_option Elab.async false
set_option linter.all false
set_option maxRecDepth 100000
set_option maxHeartbeats 8000000
/-! J2: helpers for the law's clocks: calls of _law_taken, one of several lists, sorted triples. -/
namespace DL
open PySem PySem.Spec L2
section
variable {α : Type} {Pt : α → Bool → Prop} {Pf : α → D → Prop} {xs : List α} {ds : List D}
theorem LcR.full (h : LcR Pt Pf xs ds) (hf : ∀ x, ¬ Pt x false) : ds.length = xs.length := by
  induction h with
  | nil => rfl
  | skip _ h1 _ => exact absurd h1 (hf _)
  | take _ _ _ ih => rw [List.length_append, List.length_append, ih]; rfl
theorem LcR.sub {g : α → D} (h : LcR Pt (fun x d => d = g x) xs ds) : ∃ l : List α, l.Sublist xs ∧ ds = l.map g := by
  induction h with
  | nil => exact ⟨[], .slnil, rfl⟩
  | @skip xs ds x _ _ ih =>
    obtain ⟨l, h1, h2⟩ := ih
    exact ⟨l, h1.trans (List.sublist_append_left xs [x]), h2⟩
  | @take xs ds x d _ _ h2 ih =>
    obtain ⟨l, h1, h3⟩ := ih
    exact ⟨l ++ [x], h1.append (List.Sublist.refl _), by rw [List.map_append, h3, h2]; rfl⟩
theorem enc_of {g : Nat → D} {P : Nat → Prop} : ∀ {ds : List D}, (∀ d ∈ ds, ∃ k, P k ∧ d = g k) → ∃ es : List Nat, ds = es.map g ∧ ∀ e ∈ es, P e
  | [], _ => ⟨[], rfl, fun _ h => nomatch h⟩
  | d :: ds, h => by
    obtain ⟨k, h1, h2⟩ := h d List.mem_cons_self
    obtain ⟨es, h3, h4⟩ := enc_of fun x hx => h x (List.mem_cons_of_mem _ hx)
    refine ⟨k :: es, by rw [h2, h3]; rfl, fun e he => ?_⟩
    rcases List.mem_cons.mp he with q | q
    · rw [q]; exact h1
    · exact h4 e q
end
/-- one of several lists, read on -/
def tLN (K : PySem.W.Frag) (Γ : En) (P : List D → Prop) : TE := fun σ H Q => ∃ Z, OkS K Z σ Γ H ∧ ∀ ds v H', P ds → Nx K Z σ Γ H H' → (pl K ds).phi (minus Z σ Γ H') v → Q v H'
section
variable {X : Cx} {K : PySem.W.Frag} {Γ : En} {a b c e : Expr} {pos p p' : Pos} {d : D} {ds : List D} {P : List D → Prop} {Pd : D → Prop} {Ψ : Out → Prop} {x : Str}
theorem jl_p (h : PE X e (tR K Γ (.p (pl K ds)))) (hp : P ds) : PE X e (tLN K Γ P) := pe_imp h fun σ H Q ⟨Z, k, q⟩ => ⟨Z, k, fun v H' n r => q ds v H' hp n r⟩
theorem jl_f {Pc : Ct → Prop} (h : PE X e (tF K Γ Pc)) (hp : ∀ c, Pc c → ∃ ds, c = cl K ds ∧ P ds) : PE X e (tLN K Γ P) := pe_imp h fun σ H Q ⟨Z, k, q⟩ => ⟨Z, k, fun c a ob H' hc n fr ha on => by
  obtain ⟨ds, e, hd⟩ := hp c hc
  subst e
  obtain ⟨vs, e, r⟩ := on
  subst e
  exact q ds _ H' hd n ⟨a, vs, rfl, SqL.of (minus_of ha (k.fresh fr)), r.k n.ok.tk⟩⟩
theorem jl_if {cnd : Expr} {x : Bool} (hc : PT X cnd (tT K Γ x)) (ha : x = true → PE X a (tLN K Γ P)) (hb : x = false → PE X b (tLN K Γ P)) : PE X (.IfExp cnd a b pos) (tLN K Γ P) :=
  pe_imp (pe_ifExp hc (pe_cond ha) (pe_cond hb)) fun σ H Q ⟨Z, k, q⟩ => ⟨Z, k, fun H' n => by
    dsimp only
    cases x with
    | true =>
      rw [if_pos rfl]
      exact ⟨rfl, Z, n.ok, fun ds v H2 hp n2 r2 => q ds v H2 hp (n.trans n2) r2⟩
    | false =>
      rw [if_neg Bool.false_ne_true]
      exact ⟨rfl, Z, n.ok, fun ds v H2 hp n2 r2 => q ds v H2 hp (n.trans n2) r2⟩⟩
/-- tuple(one of several lists) -/
theorem jl_tuple (hm : X.mg "tuple" = none) (ha : PE X e (tLN X.K Γ P)) (hg : Gl X "tuple" := by rfl) (he : starEach [e] X.env = (false, eval e X.env) :: starEach [] X.env := by rfl) : PE X (.Call (.Name "tuple" p) [e] [] pos) (tN X.K Γ fun d => ∃ ds, d = .t ds ∧ P ds) :=
  pe_imp (pe_callTy call_tuple_of hg hm (by decide +kernel) (pa_cons ha pa_nil he) (by decide) (by decide) he) fun σ H Q ⟨Z, k, q⟩ => ⟨Z, k, fun ds v H1 hp n r => by
    obtain ⟨a, ws, e1, h1, h2⟩ := r
    subst e1
    exact ⟨a, ws, rfl, .inl ⟨minus_keep.seqL h1, fun l hl => by
      have n2 : Nx X.K Z σ Γ H1 (upd H1 l (.tup ws)) := Nx.new n.ok hl
      exact q (.t ds) _ _ ⟨ds, rfl, hp⟩ (n.trans n2) ⟨l, ws, rfl, minus_of upd_same (n.ok.fresh hl), h2.k n2.kp.tk⟩⟩⟩⟩
/-- xs.append(one of several) -/
theorem js_appendN (i : Nat) {apos cpos : Pos} (hv : Γ[i]? = some (.o (cl X.K ds))) (he : PE X e (tN X.K Γ Pd)) (hz : ds.length < 100000) (h : ∀ d, Pd d → Ψ (.nx (Γ.set i (.o (cl X.K (ds ++ [d])))))) (hN : X.N[i]? = some x := by rfl) (hx : Vis X.env.scope x := by first | exact Or.inl rfl | exact Or.inr (Or.inl rfl) | exact Or.inr (Or.inr rfl))
    (hw : PE X (.Call (.Attribute (.Name x p') "append" apos) [e] [] cpos) (tBM X.K "list" rAppend (tVar i) (tCons (tN X.K Γ Pd) tNil))) (hsw : swapsWith (.Call (.Attribute (.Name x p') "append" apos) [e] [] cpos) none pos.line X.env = pure false := by rfl) :
    PS X (.Expr (.Call (.Attribute (.Name x p') "append" apos) [e] [] cpos) pos) (tS X.K Γ Ψ) :=
  ps_imp (ps_expr hw hsw) fun D σ H ⟨H0, ok, h1, _, _⟩ => by
    obtain ⟨v, e1, a, ob, e2, e3, ws, e4, e5⟩ := ok.sl i _ hv
    subst e2 e4
    refine ⟨.ref a, e1, .inl ⟨rfl, _, SqL.of e3⟩, noZ, ok.toOkS, fun d w H' hd n r => ?_⟩
    obtain ⟨v', f1, a', ob', f2, f3, ws', f4, f5⟩ := n.ok.sl i _ hv
    rw [e1] at f1
    cases f1
    cases f2
    subst f4
    refine ⟨a, ws', w, rfl, rfl, f3, Nat.lt_of_lt_of_le (show ws'.length < 100001 by rw [f5.len]; omega) (by decide), ?_⟩
    exact h1 _ _ _ (h d hd) ((ok.nx n).write hv e1 ⟨_, rfl, f5.snoc r⟩)
/-- int operators of one of several -/
theorem jn_add {P1 P2 P3 : D → Prop} (ha : PE X a (tN K Γ P1)) (hb : PE X b (tN K Γ P2)) (h : ∀ d1 d2, P1 d1 → P2 d2 → ∃ x y : Int, d1 = .i x ∧ d2 = .i y ∧ P3 (.i (x + y))) : PE X (.BinOp a .Add b pos) (tN K Γ P3) :=
  je_opU op_add (fun d1 d2 h1 h2 => by
    obtain ⟨x, y, rfl, rfl, h3⟩ := h d1 d2 h1 h2
    exact ⟨_, o2_I0, h3⟩) ha hb
theorem jn_gt {P1 P2 : D → Prop} {Pb : Bool → Prop} (ha : PE X a (tN K Γ P1)) (hb : PE X b (tN K Γ P2)) (h : ∀ d1 d2, P1 d1 → P2 d2 → ∃ x y : Int, d1 = .i x ∧ d2 = .i y ∧ Pb (decide (y < x))) : PT X (.Compare a [.Gt] [b] pos) (tTN K Γ Pb) :=
  jt_cmpU op_gt (fun d1 d2 h1 h2 => by
    obtain ⟨x, y, rfl, rfl, h3⟩ := h d1 d2 h1 h2
    exact ⟨_, o2_IB, h3⟩) ha hb (nomark _)
end
end DL
namespace LC
open DL LW L2
def key3 (x : Nat × Nat × Nat) : List Int := [(x.1 : Int), (x.2.1 : Int), (x.2.2 : Int)]
theorem key3_inj (a b : Nat × Nat × Nat) (h : key3 a = key3 b) : a = b := by
  unfold key3 at h
  injection h with h1 h
  injection h with h2 h
  injection h with h3 _
  ext <;> omega
def lt3 (a b : Nat × Nat × Nat) : Prop := a.1 < b.1 ∨ (a.1 = b.1 ∧ (a.2.1 < b.2.1 ∨ (a.2.1 = b.2.1 ∧ a.2.2 < b.2.2)))
theorem code_key3 (a : Nat × Nat × Nat) : TS.code 64 (key3 a) = (a.1 : Int) * 4096 + a.2.1 * 64 + a.2.2 := by
  show (a.1 : Int) * 64 ^ [(a.2.1 : Int), (a.2.2 : Int)].length + ((a.2.1 : Int) * 64 ^ [(a.2.2 : Int)].length + ((a.2.2 : Int) * 64 ^ ([] : List Int).length + 0)) = _
  simp
  omega
def srt3 (l : List (Nat × Nat × Nat)) : List (Nat × Nat × Nat) := l.mergeSort fun a b => decide (TS.code 64 (key3 a) ≤ TS.code 64 (key3 b))
theorem srt3_perm (l : List (Nat × Nat × Nat)) : (srt3 l).Perm l := List.mergeSort_perm _ _
theorem srt3_le (l : List (Nat × Nat × Nat)) : (srt3 l).Pairwise fun a b => TS.code 64 (key3 a) ≤ TS.code 64 (key3 b) := by
  have := List.pairwise_mergeSort (le := fun a b => decide (TS.code 64 (key3 a) ≤ TS.code 64 (key3 b))) (fun a b c h1 h2 => by
    rw [decide_eq_true_iff] at h1 h2 ⊢
    omega) (fun a b => by
    rw [Bool.or_eq_true, decide_eq_true_iff, decide_eq_true_iff]
    omega) l
  exact this.imp fun h => of_decide_eq_true h
theorem code3_inj {a b : Nat × Nat × Nat} (ha : a.1 < 64 ∧ a.2.1 < 64 ∧ a.2.2 < 64) (hb : b.1 < 64 ∧ b.2.1 < 64 ∧ b.2.2 < 64) (h : TS.code 64 (key3 a) = TS.code 64 (key3 b)) : a = b := by
  rw [code_key3, code_key3] at h
  ext <;> omega
theorem code3_lt {a b : Nat × Nat × Nat} (ha : a.1 < 64 ∧ a.2.1 < 64 ∧ a.2.2 < 64) (hb : b.1 < 64 ∧ b.2.1 < 64 ∧ b.2.2 < 64) (h : TS.code 64 (key3 a) ≤ TS.code 64 (key3 b)) (hn : a ≠ b) : lt3 a b := by
  have hne : TS.code 64 (key3 a) ≠ TS.code 64 (key3 b) := fun z => hn (code3_inj ha hb z)
  rw [code_key3, code_key3] at h hne
  unfold lt3
  omega
theorem srt3_uniq {l l' : List (Nat × Nat × Nat)} (hb : ∀ x ∈ l, x.1 < 64 ∧ x.2.1 < 64 ∧ x.2.2 < 64) (hp : l'.Perm l) (hs : l'.Pairwise fun a b => TS.code 64 (key3 a) ≤ TS.code 64 (key3 b)) : l' = srt3 l :=
  List.Perm.eq_of_pairwise (le := fun a b => TS.code 64 (key3 a) ≤ TS.code 64 (key3 b)) (fun a b ha hb2 h1 h3 => code3_inj (hb a (hp.mem_iff.mp ha)) (hb b ((srt3_perm l).mem_iff.mp hb2)) (by omega)) hs (srt3_le l) (hp.trans (srt3_perm l).symm)
theorem srt3_lt {l : List (Nat × Nat × Nat)} (hb : ∀ x ∈ l, x.1 < 64 ∧ x.2.1 < 64 ∧ x.2.2 < 64) (hn : l.Nodup) : (srt3 l).Pairwise lt3 := by
  have h1 := srt3_le l
  have h2 : (srt3 l).Nodup := (srt3_perm l).nodup_iff.mpr hn
  refine (List.Pairwise.and h1 h2).imp_of_mem fun {a b} ha hb' h => ?_
  exact code3_lt (hb a ((srt3_perm l).mem_iff.mp ha)) (hb b ((srt3_perm l).mem_iff.mp hb')) h.1 h.2
end LC
namespace LW
open PySem PySem.Spec L2 DL LC QL
section
variable {X : Cx} {Γ : En} {a e : Expr} {pos p p0 : Pos} {k j : Nat}
/-- sorted(xs) of triples -/
theorem je_sort3 {l : List (Nat × Nat × Nat)} (hm : X.mg "sorted" = none) (hb : ∀ x ∈ l, x.1 < 64 ∧ x.2.1 < 64 ∧ x.2.2 < 64) (hn : l.length < 64) (ha : PE X a (tR X.K Γ (.p (pl X.K (l.map e3))))) (hg : Gl X "sorted" := by rfl) (hs : starEach [a] X.env = (false, eval a X.env) :: starEach [] X.env := by rfl) :
    PE X (.Call (.Name "sorted" p) [a] [] pos) (tF X.K Γ (· = cl X.K ((srt3 l).map e3))) :=
  pe_imp (je_sorted (e := e3) key3 3 64 (by decide) hm (fun y _ => rfl) (fun y hy => ⟨rfl, fun z hz => by
    obtain ⟨h1, h2, h3⟩ := hb y hy
    have hz : z = (y.1 : Int) ∨ z = (y.2.1 : Int) ∨ z = (y.2.2 : Int) := by simpa [key3] using hz
    omega⟩) hn ha hg hs) fun σ H Q ⟨Z, k, q⟩ => ⟨Z, k, fun c a ob H' hc n fr ha on => q c a ob H' (by
      obtain ⟨l', h1, h2, h3⟩ := hc
      rw [h3, srt3_uniq hb h1 h2]) n fr ha on⟩
/-- what stands for the row -/
def RowC (K : PySem.W.Frag) (c : Ct) : Prop := ∀ a ob B, c.on a ob B → ∃ q, rowOk q ∧ (pinC a (rowL K q)).on a ob B ∧ ∀ q' ob' B', rowOk q' → (rowL K q').on a ob' B' → c.on a ob' B'
theorem rowC_E {K : PySem.W.Frag} {A : Addr} : RowC K (rowE K A) := fun a ob B ⟨q, h, e, r⟩ => ⟨q, h, ⟨rfl, r⟩, fun q' ob' B' h' r' => ⟨q', h', e, r'⟩⟩
theorem rowC_Q {K : PySem.W.Frag} : RowC K (rowQ K) := fun a ob B ⟨q, h, r⟩ => ⟨q, h, ⟨rfl, r⟩, fun q' ob' B' h' r' => ⟨q', h', r'⟩⟩
theorem rowC_E2 {K : PySem.W.Frag} {c : Ct} (hc : RowC K c) {a : Addr} {ob : HO} {B : Hp} (h : c.on a ob B) : (rowE K a).on a ob B ∧ ∀ ob' B', (rowE K a).on a ob' B' → c.on a ob' B' := by
  obtain ⟨q, h1, h2, h3⟩ := hc a ob B h
  exact ⟨⟨q, h1, h2⟩, fun ob' B' ⟨q', h4, _, h5⟩ => h3 q' ob' B' h4 h5⟩
/-- _law_taken(row, e) -/
theorem je_tk (i : Nat) {m : Nat} {M : Int} {c : Ct} (G : DfM X.prog X.w X.K X.mg X.base k "_law_taken" psTk (pmTk X.K)) (hr : Room j X.A) (hk : k ≤ j) (hc : RowC X.K c) (ha : PE X e (tR X.K Γ (.d (.i M)))) (hM : M = (m : Int)) (h0 : 0 < m) (h1 : m ≤ 1000) (hv : Γ[i]? = some (.o c) := by rfl) (hN : X.N[i]? = some "_law_row" := by rfl)
    (hx : Vis X.env.scope "_law_row" := by first | exact Or.inl rfl | exact Or.inr (Or.inl rfl) | exact Or.inr (Or.inr rfl)) (hg : Gl X "_law_taken" := by rfl)
    (he : starEach [.Name "_law_row" p0, e] X.env = (false, eval (.Name "_law_row" p0) X.env) :: starEach [e] X.env := by rfl) (he2 : starEach [e] X.env = (false, eval e X.env) :: starEach [] X.env := by rfl) (hpl : (backTo pos (starEach [e] X.env)).any (·.1) = false := by rfl) :
    PE X (.Call (.Name "_law_taken" p) [.Name "_law_row" p0, e] [] pos) (tN X.K Γ fun d => ∃ n, n < m ∧ d = eN n) := by
  obtain ⟨f, fd, F, hm, kp, b⟩ := G.ex
  subst hM
  refine je_callM i F (hr.mono hk) hm kp b hv (PP := fun ss => ss = [.d (eN m)]) (jau_a (ja_cons ha ja_nil he2)) (fun ss hs a ob B on => ?_) hN hx hg (by decide) he hpl (by decide) (by decide)
  obtain ⟨q, h2, h3, h4⟩ := hc a ob B on
  exact ⟨(q, m), hs.symm, ⟨h2, h0, h1⟩, h3, fun d h => h, fun ob' B' ⟨q', h5, _, h6⟩ => h4 q' ob' B' h5 h6⟩
end
end LW
end

section
set_option Elab.async false
set_option linter.all false
set_option maxRecDepth 100000
set_option maxHeartbeats 8000000
/-! J3: _law_low_clock. -/
namespace LC
open DL LW L2
structure LowC (per n mo : Nat) (c : Clk) : Prop where
  hper : c.per = per
  hn : c.eds.length = n
  ed : ∀ x ∈ c.eds, x ≤ mo
  tn : c.tch.length ≤ 20
  tv : ∀ t ∈ c.tch, t.1 < per ∧ t.2.1 < t.2.2 ∧ t.2.2 < n
  ts : c.tch.Pairwise lt3
  gn : c.gps.length = n
  gv : ∀ g ∈ c.gps, g ≠ [] ∧ (∀ x ∈ g, x < per) ∧ g.Pairwise (· < ·)
  bn : c.bk.length ≤ 20
  bv : ∀ x ∈ c.bk, x.1 < n ∧ x.2.2.1 < n ∧ x.1 ≠ x.2.2.1 ∧ 1 ≤ x.2.1 ∧ x.2.1 ≤ at_ c.eds x.1 ∧ 1 ≤ x.2.2.2 ∧ x.2.2.2 ≤ at_ c.eds x.2.2.1
  bs : c.bk.Pairwise fun a b => lt3 (a.1, a.2.1, a.2.2.1) (b.1, b.2.1, b.2.2.1)
theorem sum_lek {m : Nat} : ∀ {l : List Nat}, (∀ x ∈ l, x < m + 1) → l.sum ≤ m * l.length
  | [], _ => Nat.zero_le _
  | x :: l, h => by
    have h1 := h x List.mem_cons_self
    have h2 := sum_lek fun y hy => h y (List.mem_cons_of_mem x hy)
    rw [List.sum_cons, List.length_cons, Nat.mul_add, Nat.mul_one]
    omega
theorem putA_mem {α β : Type} [DecidableEq α] {l : List (α × β)} {k : α} {b : β} {x : α × β} (h : x ∈ putA l k b) : x = (k, b) ∨ x ∈ l := by
  unfold putA at h
  split at h
  · obtain ⟨p, hp, e⟩ := List.mem_map.mp h
    split at e
    · rename_i q
      exact .inl (by rw [← e, q])
    · exact .inr (by rw [← e]; exact hp)
  · rcases List.mem_append.mp h with q | q
    · exact .inr q
    · exact .inl (List.mem_singleton.mp q)
theorem encA_keys {β : Type} (v : β → V) (l : List ((Nat × Nat × Nat) × β)) : (encA key3 v l).map (fun q => D.t (nums q.1)) = (l.map (·.1)).map e3 := by
  unfold encA
  rw [List.map_map, List.map_map]
  rfl
def GapOk (per : Nat) (g : List Nat) : Prop := g ≠ [] ∧ (∀ x ∈ g, x < per) ∧ g.Pairwise (· < ·)
/-- the book's entries -/
def bkOf (tb : List ((Nat × Nat × Nat) × Nat)) : List (Nat × Nat × Nat × Nat) := (srt3 (tb.map (·.1))).map fun k => (k.1, k.2.1, k.2.2, (getA tb k).getD 0)
end LC
namespace LW
open PySem PySem.Spec L2 DL LC QL
section
variable {P : Program} {w : World} {K : PySem.W.Frag} {mg : Str → Option Value} {base : Heap} {f : Addr} {fd : FuncData}
abbrev sLC : Stmt := topS 62
abbrev nLC : List Str := ["_law_row", "_law_period", "_law_wheels", "_law_most", "_law_entries", "_law_editions", "_law_touches", "_law_turn", "_law_one", "_law_other", "_law_gaps", "_law_last", "_law_some", "_law_book", "_law_entry", "_law_wheel", "_law_phase", "_law_key"]
abbrev psLC : List Str := ["_law_row", "_law_period", "_law_wheels", "_law_most", "_law_entries"]
theorem scLC : FnScope nLC psLC (defScope sLC) := ⟨rfl, rfl, rfl, by decide +kernel, rfl, by decide +kernel, by decide +kernel⟩
def pmLC (K : PySem.W.Frag) : PmM := ⟨Nat × Nat × Nat × Nat, fun _ A => rowE K A, fun (per, n, mo, en) => [.d (eN per), .d (eN n), .d (eN mo), .d (eN en)], fun (per, n, mo, en) => 1 ≤ per ∧ per ≤ 4 ∧ 1 ≤ n ∧ n ≤ 3 ∧ mo ≤ 2 ∧ en ≤ 5, fun (per, n, mo, _) r => ∃ c, r = eC c ∧ LowC per n mo c, fun _ A => rowE K A⟩
abbrev rLC (K : PySem.W.Frag) (a : Addr) (per n mo en : Nat) (l : List Sl) : En := .o (rowE K a) :: .d (eN per) :: .d (eN n) :: .d (eN mo) :: .d (eN en) :: l
/-- the touches' table -/
structure TOk (per n : Nat) (tb : List ((Nat × Nat × Nat) × Unit)) : Prop where
  key : Keyed tb
  v : ∀ x ∈ tb, x.1.1 < per ∧ x.1.2.1 < x.1.2.2 ∧ x.1.2.2 < n
abbrev eTb (tb : List ((Nat × Nat × Nat) × Unit)) : KD := encA key3 (fun _ => V.bl true) tb
/-- the book's table -/
structure BOk (es : List Nat) (tb : List ((Nat × Nat × Nat) × Nat)) : Prop where
  key : Keyed tb
  v : ∀ x ∈ tb, x.1.1 < es.length ∧ x.1.2.2 < es.length ∧ x.1.1 ≠ x.1.2.2 ∧ 1 ≤ x.1.2.1 ∧ x.1.2.1 ≤ at_ es x.1.1 ∧ 1 ≤ x.2 ∧ x.2 ≤ at_ es x.1.2.2
abbrev eBk (tb : List ((Nat × Nat × Nat) × Nat)) : KD := encA key3 (fun n => V.int (n : Nat)) tb
theorem rng_len0 {m : Nat} : (nums (rng 0 (m : Int))).length = m := by rw [rng_nn, List.length_map, List.length_range]
theorem ok_lc (B : Blt mg) (GT : DfM P w K mg base 1 "_law_taken" psTk (pmTk K)) (F : Fun K "_law_low_clock" "_law_low_clock" sLC f fd) : FnOk P w K mg base CX0 2 f fd psLC (spM K (pmLC K)) := by
  refine fn_okM F scLC (fun _ => rfl) (fun _ _ => by simp [pmLC]) (by decide) (fun _ _ _ _ _ ⟨_, _, h, _⟩ => h) fun cdv A outer s H E ⟨per, n, mo, en⟩ a hr ⟨hp1, hp4, hn1, hn3, hmo, hen⟩ => ?_
  have hp1 : 1 ≤ per := hp1
  have hp4 : per ≤ 4 := hp4
  have hn1 : 1 ≤ n := hn1
  have hn3 : n ≤ 3 := hn3
  have hmo : mo ≤ 2 := hmo
  have hen : en ≤ 5 := hen
  show PSs _ _ (tS K (rLC K a per n mo en [.u, .u, .u, .u, .u, .u, .u, .u, .u, .u, .u, .u, .u]) _)
  refine js_cons (js_setLcN 5 (xs := List.range n) (enc := eN) (Pt := fun _ b => b = true) (Pf := fun _ d => ∃ k, k < mo + 1 ∧ d = eN k) (Γe := fun i => rLC K a per n mo en [.u, .u, .u, .u, .u, .u, .u, .u, .u, .u, .d (eN i), .u, .u]) [("_law_wheel", 15)] rfl scLC.nd rfl rfl (by simp) (sw_true rfl rfl rfl (by decide +kernel)) (ji_is (ji_range1 B.range (jv 2) (by omega)) (rng_nn n)) (blkOk_by (N := nLC) (sc := defScope sLC) (by decide +kernel)) (tg_name 15) (by decide) rfl (fun x _ => rfl) (by rw [List.length_range]; omega) (fun _ _ _ _ _ => pg_name scLC.nd rfl (Or.inl rfl)) (fun _ _ _ _ _ _ _ => jtn_nil) (fun i hi _ s H C cl fp => je_tk 0 GT hr (by decide) rowC_E (je_add (jv 3) je_int) rfl (by omega) (by omega)) fun ds hR => ?_)
  have hl := hR.full (fun x h => nomatch h)
  obtain ⟨es, he, hes⟩ := enc_of (fun d hd => let ⟨_, _, _, h⟩ := hR.mem d hd; h)
  subst he
  rw [List.length_map, List.length_range] at hl
  have hsum : es.sum ≤ 6 := by
    have h1 := sum_lek hes
    rw [hl] at h1
    have h2 : mo * n ≤ 2 * 3 := Nat.mul_le_mul hmo hn3
    omega
  show PSs _ _ (tS K (rLC K a per n mo en [.o (cl K (es.map eN)), .u, .u, .u, .u, .u, .u, .u, .u, .u, .u, .u, .u]) _)
  rw [← nums_nn es]
  refine js_cons (js_while (fun _ Γ' => Γ' = rLC K a per n mo en [.o (cl K (nums (nn es))), .u, .u, .u, .u, .u, .u, .u, .u, .u, .u, .u, .u]) PassesOwn.never 0 rfl fun m Γ' e => ?_)
  subst e
  refine ⟨false, jt_lend 5 lend_pl (jt_is (jt_gt (je_sumL rfl B.sum (jvp 5) rfl) je_int) ?_), (fun z => nomatch z), fun _ => ?_⟩
  · rw [nn_sum]
    exact decide_eq_false (by omega)
  refine js_freezeP 5 lend_pl ?_
  refine js_cons (js_setF 6 (P := (· = dC [])) scLC.nd je_dnew fun cc hc => ?_)
  subst hc
  refine js_cons (js_forN (P := fun ds => ∃ k : Int, ds = nums (rng 0 k) ∧ ∃ m : Nat, k = m ∧ m < 2 + 2 * n) (fun _ i Γ => ∃ (tb : List ((Nat × Nat × Nat) × Unit)) (x7 x8 x9 : Sl), TOk per n tb ∧ tb.length ≤ i ∧ Γ = rLC K a per n mo en [.p (pl K (nums (nn es))), .o (dC (eTb tb)), x7, x8, x9, .u, .u, .u, .u, .u, .u, .u, .u]) PassesOwn.never rfl
    (ji_range1N (P := fun k => ∃ m : Nat, k = m ∧ m < 2 + 2 * n) B.range (jn_imp (je_tk 0 (m := 2 + 2 * n) GT hr (by decide) rowC_E (je_add je_int (je_mul (.inl (by decide)) je_int (jv 2))) (by omega) (by omega) (by omega)) fun d ⟨k, hk, e⟩ => ⟨k, e, k, rfl, hk⟩) fun k ⟨m, e, hm⟩ => by omega) (pg_name scLC.nd rfl (Or.inl rfl)) (tg_name 7) (fun ds _ => ⟨[], .u, .u, .u, ⟨List.nodup_nil, fun _ h => nomatch h⟩, Nat.le_refl _, rfl⟩) (fun ds hP i dd Γ' hd hI => ?_) fun ds hP Γ' hI => ?_)
  · obtain ⟨tb, x7, x8, x9, hT, hlt, rfl⟩ := hI
    obtain ⟨k, rfl, m, rfl, hm⟩ := hP
    have hi : i < m := by have := (List.getElem?_eq_some_iff.mp hd).1; rwa [rng_len0] at this
    refine ⟨rLC K a per n mo en [.p (pl K (nums (nn es))), .o (dC (eTb tb)), .d dd, x8, x9, .u, .u, .u, .u, .u, .u, .u, .u], rfl, ?_⟩
    refine js_cons (js_setN 8 (P := fun d => ∃ k, k < n ∧ d = eN k) scLC.nd (je_tk 0 GT hr (by decide) rowC_E (jv 2) rfl (by omega) (by omega)) fun d1 ⟨one, h1, e1⟩ => ?_)
    subst e1
    refine js_cons (js_setN 9 (P := fun d => ∃ k, k < n ∧ d = eN k) scLC.nd (je_tk 0 GT hr (by decide) rowC_E (jv 2) rfl (by omega) (by omega)) fun d1 ⟨other, h2, e1⟩ => ?_)
    subst e1
    refine js_one (js_if (x := decide ((one : Int) < (other : Int))) (jt_lt (jv 8) (jv 9)) (fun z => js_one (js_dputU 6 (Pk := fun ns => ∃ p, p < per ∧ ns = key3 (p, one, other)) (Pv := (· = .b true)) (un1 hr) rfl (jn_d je_bl) (jn_imp (je_tupU (Pd := fun ds => ∃ p, p < per ∧ ds = nums (key3 (p, one, other))) (jau_imp (jau_cons (je_tk 0 GT hr (by decide) rowC_E (jv 1) rfl (by omega) (by omega)) (jau_c (jv 8) (jau_c (jv 9) jau_nil))) fun ss h => ?_) fun ds h => ?_) fun d h => ?_) (fun d e => ⟨.bl true, e ▸ .b true⟩) ?_ fun ns d v h e hs => ?_)) fun z => js_nil ?_)
    · obtain ⟨d, r, rfl, ⟨p, hp, rfl⟩, r2, rfl, r3, rfl, e⟩ := h
      have e : r3 = [] := e
      subst e
      exact ⟨nums (key3 (p, one, other)), rfl, p, hp, rfl⟩
    · obtain ⟨p, _, rfl⟩ := h
      exact Nat.le_of_ble_eq_true rfl
    · obtain ⟨ds, rfl, p, hp, rfl⟩ := h
      exact ⟨_, rfl, p, hp, rfl⟩
    · unfold eTb encA
      rw [List.length_map]
      omega
    · obtain ⟨p, hp, rfl⟩ := h
      subst e
      cases hs
      have z := of_decide_eq_true z
      refine ⟨putA tb (p, one, other) (), .d dd, .d (eN one), .d (eN other), ⟨hT.key.put _ _, fun x hx => ?_⟩, ?_, ?_⟩
      · rcases putA_mem hx with q | q
        · rw [q]
          exact ⟨hp, by show one < other; omega, h2⟩
        · exact hT.v x q
      · have := putA_len tb (p, one, other) ()
        omega
      · have e9 : putK (eTb tb) (key3 (p, one, other)) (V.bl true) = eTb (putA tb (p, one, other) ()) := encA_put (e := key3) (v := fun _ : Unit => V.bl true) key3_inj _ () tb
        rw [e9]
        rfl
    · exact ⟨tb, .d dd, .d (eN one), .d (eN other), hT, by omega, rfl⟩
  obtain ⟨tb, x7, x8, x9, hT, hlt, rfl⟩ := hI
  obtain ⟨k, rfl, m, rfl, hm⟩ := hP
  rw [rng_len0] at hlt
  refine js_cons (js_setF 10 (P := (· = cl K [])) scLC.nd (je_lst (ds := []) ja_nil) fun cc hc => ?_)
  subst hc
  refine js_cons (js_for (ds := nums (nn es)) (fun i Γ => ∃ (gs : List (List Nat)) (x11 x12 : Sl), gs.length = i ∧ (∀ g ∈ gs, GapOk per g) ∧ Γ = rLC K a per n mo en [.p (pl K (nums (nn es))), .o (dC (eTb tb)), x7, x8, x9, .o (cl K (gs.map eT)), x11, x12, .u, .u, .u, .u, .u]) PassesOwn.never rfl (ji_list (jvp 5)) (pg_name scLC.nd rfl (Or.inl rfl)) (tg_name 11) ⟨[], .u, .u, rfl, (fun _ h => nomatch h), rfl⟩ (fun i dd Γ' hd hI => ?_) fun Γ' hI => ?_)
  · obtain ⟨gs, x11, x12, hgl, hgs, rfl⟩ := hI
    have hi : i < n := by
      have := (List.getElem?_eq_some_iff.mp hd).1
      rw [nn_len, hl] at this
      exact this
    refine ⟨rLC K a per n mo en [.p (pl K (nums (nn es))), .o (dC (eTb tb)), x7, x8, x9, .o (cl K (gs.map eT)), .d dd, x12, .u, .u, .u, .u, .u], rfl, ?_⟩
    refine js_cons (js_setLcN 12 (xs := List.range per) (enc := eN) (Pt := fun _ _ => True) (Pf := fun x d => d = eN x) (Γe := fun p => rLC K a per n mo en [.p (pl K (nums (nn es))), .o (dC (eTb tb)), x7, x8, x9, .o (cl K (gs.map eT)), .d dd, x12, .u, .u, .u, .d (eN p), .u]) [("_law_phase", 16)] rfl scLC.nd rfl rfl (by simp) (sw_true rfl rfl rfl (by decide +kernel)) (ji_is (ji_range1 B.range (jv 1) (by omega)) (rng_nn per)) (blkOk_by (N := nLC) (sc := defScope sLC) (by decide +kernel)) (tg_name 16) (by decide) rfl (fun x _ => rfl) (by rw [List.length_range]; omega) (fun _ _ _ _ _ => pg_name scLC.nd rfl (Or.inl rfl))
      (fun _ _ s H C cl fp => jtn_one (jn_gt (je_tk 0 (m := 3) GT hr (by decide) rowC_E je_int rfl (by decide) (by decide)) (jn_d je_int) fun d1 d2 ⟨k, hk, e1⟩ e2 => ⟨k, 0, e1, e2, trivial⟩)) (fun p hp _ s H C cl fp => jn_d (jv 16)) fun ds hR => ?_)
    obtain ⟨l, hsl, rfl⟩ := hR.sub
    refine js_freezeP 12 lend_pl ?_
    have hgo : l ≠ [] → GapOk per l := fun q => ⟨q, fun x hx => List.mem_range.mp (hsl.subset hx), List.pairwise_lt_range.sublist hsl⟩
    refine js_one (js_appendN 10 (Pd := fun d => ∃ g, d = eT g ∧ GapOk per g) rfl ?hx (by rw [List.length_map]; omega) (fun d ⟨g, e, hg⟩ => ?_) (hw := pe_bm PySem.F.plainAttrs_list PySem.F.slot_list_append PySem.F.type_list_append mt_append (pv 10) (pa_cons ?hx pa_nil)))
    case hx =>
      refine jn_imp (jl_tuple B.tuple (jl_if (P := fun ds => ∃ g, ds = nums (nn g) ∧ GapOk per g) (jt_neN hr.units (jvp 12) (je_fp (je_lst (ds := []) ja_nil)) ?_) (fun z => jl_p (jvp 12) ⟨l, (nums_nn l).symm, hgo fun q => ?_⟩) fun z => jl_f (je_lstU (Pd := fun ds => ∃ p, p < per ∧ ds = [eN p]) (jau_imp (jau_cons (je_tk 0 GT hr (by decide) rowC_E (jv 1) rfl (by omega) (by omega)) jau_nil) fun ss h => ?_) fun ds h => ?_) fun c h => ?_)) fun d h => ?_
      · rw [← nums_nn, depth_nums]
        omega
      · rw [q] at z
        exact absurd z (by decide)
      · obtain ⟨d, r, rfl, ⟨p, hp, rfl⟩, e⟩ := h
        have e : r = [] := e
        subst e
        exact ⟨[eN p], rfl, p, hp, rfl⟩
      · obtain ⟨p, _, rfl⟩ := h
        exact Nat.le_of_ble_eq_true rfl
      · obtain ⟨ds, rfl, p, hp, rfl⟩ := h
        exact ⟨_, rfl, [p], rfl, by simp, fun x hx => by rw [List.mem_singleton.mp hx]; exact hp, by simp⟩
      · obtain ⟨ds, rfl, g, rfl, hg⟩ := h
        exact ⟨g, rfl, hg⟩
    · subst e
      refine ⟨gs ++ [g], .d dd, .p (pl K (l.map eN)), by rw [List.length_append, hgl]; rfl, fun x hx => ?_, ?_⟩
      · rcases List.mem_append.mp hx with q | q
        · exact hgs x q
        · rw [List.mem_singleton.mp q]
          exact hg
      · rw [List.map_append]
        rfl
  obtain ⟨gs, x11, x12, hgl, hgs, rfl⟩ := hI
  rw [nn_len, hl] at hgl
  refine js_freezeP 10 lend_pl ?_
  refine js_cons (js_setF 13 (P := (· = dC [])) scLC.nd je_dnew fun cc hc => ?_)
  subst hc
  refine js_cons (js_forN (P := fun ds => ∃ k : Int, ds = nums (rng 0 k) ∧ ∃ m : Nat, k = m ∧ m < en + 1) (fun _ i Γ => ∃ (tc : List ((Nat × Nat × Nat) × Nat)) (x7 x8 x9 : Sl), BOk es tc ∧ tc.length ≤ i ∧ Γ = rLC K a per n mo en [.p (pl K (nums (nn es))), .o (dC (eTb tb)), x7, x8, x9, .p (pl K (gs.map eT)), x11, x12, .o (dC (eBk tc)), .u, .u, .u, .u]) PassesOwn.never rfl
    (ji_range1N (P := fun k => ∃ m : Nat, k = m ∧ m < en + 1) B.range (jn_imp (je_tk 0 (m := en + 1) GT hr (by decide) rowC_E (je_add (jv 4) je_int) (by omega) (by omega) (by omega)) fun d ⟨k, hk, e⟩ => ⟨k, e, k, rfl, hk⟩) fun k ⟨m, e, hm⟩ => by omega) (pg_name scLC.nd rfl (Or.inl rfl)) (tg_name 7) (fun ds _ => ⟨[], x7, x8, x9, ⟨List.nodup_nil, fun _ h => nomatch h⟩, Nat.le_refl _, rfl⟩) (fun ds hP i dd Γ' hd hI => ?_) fun ds hP Γ' hI => ?_)
  · obtain ⟨tc, y7, y8, y9, hC, hlc, rfl⟩ := hI
    obtain ⟨k, rfl, m2, rfl, hm2⟩ := hP
    have hi : i < m2 := by have := (List.getElem?_eq_some_iff.mp hd).1; rwa [rng_len0] at this
    refine ⟨rLC K a per n mo en [.p (pl K (nums (nn es))), .o (dC (eTb tb)), .d dd, y8, y9, .p (pl K (gs.map eT)), x11, x12, .o (dC (eBk tc)), .u, .u, .u, .u], rfl, ?_⟩
    refine js_cons (js_par 8 9 rfl scLC.nd (ju_n (je_tk 0 GT hr (by decide) rowC_E (jv 2) rfl (by omega) (by omega))) (ju_n (je_tk 0 GT hr (by decide) rowC_E (jv 2) rfl (by omega) (by omega))) fun s1 s2 h1 h2 => ?_)
    obtain ⟨_, one, h1, rfl⟩ := h1
    obtain ⟨_, other, h2, rfl⟩ := h2
    have i1 : L2.atI (nums (nn es)) ((one : Nat) : Int) = some (eN (at_ es one)) := ix_nn (by omega)
    have i2 : L2.atI (nums (nn es)) ((other : Nat) : Int) = some (eN (at_ es other)) := ix_nn (by omega)
    have b1 : ∀ i, at_ es i ≤ 2 := fun i => by
      by_cases q : i < es.length
      · have := hes _ (List.mem_of_getElem? (at_get q))
        omega
      · unfold at_
        rw [List.getD_eq_getElem?_getD, List.getElem?_eq_none (by omega)]
        exact Nat.zero_le _
    have b3 := b1 one
    have b4 := b1 other
    refine js_one (js_if (x := !decide ((one : Int) = (other : Int)) && (decide ((0 : Int) < (at_ es one : Nat)) && decide ((0 : Int) < (at_ es other : Nat)))) (PW.pt (jw_and (jt_neI (jv 8) (jv 9)) fun _ => jw_and (jt_gt (je_ixl (jvp 5) (jv 8) i1) je_int) fun _ => jw_and1 (jt_gt (je_ixl (jvp 5) (jv 9) i2) je_int))) (fun z => ?_) fun z => js_nil ?_)
    · rw [Bool.and_eq_true, Bool.and_eq_true, Bool.not_eq_true', decide_eq_false_iff_not, decide_eq_true_iff, decide_eq_true_iff] at z
      refine js_one (js_dputU 13 (Pk := fun ns => ∃ k, k < at_ es one ∧ ns = key3 (one, 1 + k, other)) (Pv := fun d => ∃ k, k < at_ es other ∧ d = .i ((1 + k : Nat) : Int)) (un1 hr) rfl (jn_add (jn_d je_int) (je_tk 0 GT hr (by decide) rowC_E (je_ixl (jvp 5) (jv 9) i2) rfl (by omega) (by omega)) fun d1 d2 e1 ⟨k, hk, e2⟩ => ⟨1, k, e1, e2, k, hk, by congr 1⟩)
        (jn_imp (je_tupU (Pd := fun ds => ∃ k, k < at_ es one ∧ ds = nums (key3 (one, 1 + k, other))) (jau_imp (jau_c (jv 8) (jau_cons (jn_add (P3 := fun d => ∃ k, k < at_ es one ∧ d = eN (1 + k)) (jn_d je_int) (je_tk 0 GT hr (by decide) rowC_E (je_ixl (jvp 5) (jv 8) i1) rfl (by omega) (by omega)) fun d1 d2 e1 ⟨k, hk, e2⟩ => ⟨1, k, e1, e2, k, hk, by unfold eN; congr 1⟩) (jau_c (jv 9) jau_nil))) fun ss h => ?_) fun ds h => ?_) fun d h => ?_) (fun d ⟨k, _, e⟩ => ⟨.int ((1 + k : Nat) : Int), by rw [e]; exact .i _⟩) ?_ fun ns d v h e hs => ?_)
      · obtain ⟨r, rfl, d, r2, rfl, ⟨k, hk, rfl⟩, r3, rfl, e⟩ := h
        have e : r3 = [] := e
        subst e
        exact ⟨nums (key3 (one, 1 + k, other)), rfl, k, hk, rfl⟩
      · obtain ⟨p, _, rfl⟩ := h
        exact Nat.le_of_ble_eq_true rfl
      · obtain ⟨ds, rfl, p, hp, rfl⟩ := h
        exact ⟨_, rfl, p, hp, rfl⟩
      · unfold eBk encA
        rw [List.length_map]
        omega
      · obtain ⟨k, hk, rfl⟩ := h
        obtain ⟨k2, hk2, rfl⟩ := e
        cases hs
        refine ⟨putA tc (one, 1 + k, other) (1 + k2), .d dd, .d (eN one), .d (eN other), ⟨hC.key.put _ _, fun x hx => ?_⟩, ?_, ?_⟩
        · rcases putA_mem hx with q | q
          · rw [q]
            show one < es.length ∧ other < es.length ∧ one ≠ other ∧ 1 ≤ 1 + k ∧ 1 + k ≤ at_ es one ∧ 1 ≤ 1 + k2 ∧ 1 + k2 ≤ at_ es other
            omega
          · exact hC.v x q
        · have := putA_len tc (one, 1 + k, other) (1 + k2)
          omega
        · have e9 : putK (eBk tc) (key3 (one, 1 + k, other)) (V.int ((1 + k2 : Nat) : Int)) = eBk (putA tc (one, 1 + k, other) (1 + k2)) := encA_put (e := key3) (v := fun n : Nat => V.int (n : Nat)) key3_inj _ (1 + k2) tc
          rw [e9]
          rfl
    · exact ⟨tc, .d dd, .d (eN one), .d (eN other), hC, by omega, rfl⟩
  obtain ⟨tc, y7, y8, y9, hC, hlc, rfl⟩ := hI
  obtain ⟨k, rfl, m2, rfl, hm2⟩ := hP
  rw [rng_len0] at hlc
  refine js_freezeP 13 lend_d (js_freezeP 6 lend_d ?_)
  have hes2 : ∀ i, at_ es i ≤ 2 := fun i => by
    by_cases q : i < es.length
    · have := hes _ (List.mem_of_getElem? (at_get q))
      omega
    · unfold at_
      rw [List.getD_eq_getElem?_getD, List.getElem?_eq_none (by omega)]
      exact Nat.zero_le _
  have kb : ∀ x ∈ tc.map (·.1), x.1 < 64 ∧ x.2.1 < 64 ∧ x.2.2 < 64 := fun x hx => by
    obtain ⟨y, hy, rfl⟩ := List.mem_map.mp hx
    have h1 := hC.v y hy
    have h2 := hes2 y.1.1
    omega
  have tbb : ∀ x ∈ tb.map (·.1), x.1 < 64 ∧ x.2.1 < 64 ∧ x.2.2 < 64 := fun x hx => by
    obtain ⟨y, hy, rfl⟩ := List.mem_map.mp hx
    have h1 := hT.v y hy
    omega
  have gk : ∀ x ∈ srt3 (tc.map (·.1)), ∃ v, getA tc x = some v := fun x hx => by
    obtain ⟨y, hy, rfl⟩ := List.mem_map.mp ((srt3_perm _).mem_iff.mp hx)
    exact ⟨y.2, (getA_mem hC.key).mpr hy⟩
  refine js_cons (js_set 14 (d := .t ((bkOf tc).map e4)) scLC.nd (je_is (je_tupleL B.tuple (je_fp (je_lc (xs := srt3 (tc.map (·.1))) (enc := e3) (f := fun k => e4 (k.1, k.2.1, k.2.2, (getA tc k).getD 0)) (pb := fun _ => true) (Γe := fun k => rLC K a per n mo en [.p (pl K (nums (nn es))), .p (dP (eTb tb)), y7, y8, y9, .p (pl K (gs.map eT)), x11, x12, .p (dP (eBk tc)), .u, .u, .u, .d (e3 k)]) [("_law_key", 17)] rfl scLC.nd
    (ji_list (je_fp (je_sort3 B.sorted kb (by rw [List.length_map]; omega) (je_fp (je_is2 (je_dlist rfl B.list (jvp 13)) (encA_keys _ tc)))))) (blkOk_by (N := nLC) (sc := defScope sLC) (by decide +kernel)) (tg_name 17) (by decide) rfl (fun x _ => rfl) (by rw [(srt3_perm _).length_eq, List.length_map]; omega) (fun _ _ _ _ _ => pg_name scLC.nd rfl (Or.inl rfl)) (fun _ _ _ _ _ _ _ => jts_nil) (fun k hk _ s H C cl fp => ?_)))) ?_) ?_)
  · obtain ⟨v, hv⟩ := gk k hk
    rw [hv]
    refine je_is (je_cat (xs := nums (key3 k)) (ys := [.i (v : Nat)]) (jv 17) (je_tup (ds := [.i (v : Nat)]) (ja_cons (je_dget (ns := key3 k) (v := .int (v : Nat)) (un1 hr) (jvp 13) (jv 17) ?_ (.i _)) ja_nil)) (Nat.le_of_ble_eq_true rfl)) rfl
    rw [encA_get key3_inj, hv]
    rfl
  · unfold bkOf
    rw [List.filter_eq_self.mpr (fun _ _ => rfl), List.map_map]
    rfl
  refine js_one (js_ret (d := eC ⟨per, es, srt3 (tb.map (·.1)), gs, bkOf tc⟩) (je_tup (ds := [eN per, eT es, .t ((srt3 (tb.map (·.1))).map e3), .t (gs.map eT), .t ((bkOf tc).map e4)]) (ja_cons (jv 1) (ja_cons (je_tupleL B.tuple (jvp 5)) (ja_cons (je_tupleL B.tuple (je_fp (je_sort3 B.sorted tbb (by rw [List.length_map]; omega) (je_fp (je_is2 (je_dlist rfl B.list (jvp 6)) (encA_keys _ tb)))))) (ja_cons (je_tupleL B.tuple (jvp 10)) (ja_cons (jv 14) ja_nil)))))) ⟨rfl, _, rfl, _, rfl, ?_⟩)
  refine ⟨rfl, hl, fun x hx => by have := hes x hx; omega, ?_, fun x hx => ?_, srt3_lt tbb hT.key, hgl, hgs, ?_, fun x hx => ?_, ?_⟩
  · show (srt3 (tb.map (·.1))).length ≤ 20
    rw [(srt3_perm _).length_eq, List.length_map]
    omega
  · obtain ⟨y, hy, rfl⟩ := List.mem_map.mp ((srt3_perm _).mem_iff.mp hx)
    exact hT.v y hy
  · show (bkOf tc).length ≤ 20
    unfold bkOf
    rw [List.length_map, (srt3_perm _).length_eq, List.length_map]
    omega
  · obtain ⟨k, hk, rfl⟩ := List.mem_map.mp (show x ∈ bkOf tc from hx)
    obtain ⟨v, hv⟩ := gk k hk
    have h1 := hC.v _ ((getA_mem hC.key).mp hv)
    rw [hl] at h1
    rw [hv]
    exact h1
  · show (bkOf tc).Pairwise _
    unfold bkOf
    rw [List.pairwise_map]
    exact (srt3_lt kb hC.key).imp fun h => h
end
end LW
end

section
set_option Elab.async false
set_option linter.all false
set_option maxRecDepth 100000
set_option maxHeartbeats 8000000
/-! J4: _law_few. -/
namespace DL
open PySem PySem.Spec L2
theorem ixN_of {n j : Nat} (h : j < n) : ixN n (j : Int) = some j := by
  unfold ixN
  simp
  omega
section
variable {X : Cx} {K : PySem.W.Frag} {Γ : En} {o a b c e : Expr} {pos p p' p3 apos cpos : Pos} {d : D} {ds : List D} {Ψ : Out → Prop} {x : Str}
/-- xs.index(y), there -/
theorem je_index {ns : List Int} {y : Int} {j : Nat} (ho : PE X o (tR X.K Γ (.p (pl X.K (nums ns))))) (he : PE X e (tR X.K Γ (.d (.i y)))) (hj : ns[j]? = some y) (hno : ∀ m, m < j → ns[m]? ≠ some y)
    (hbase : attributeBase o "index" X.env (eval o X.env) = eval o X.env := by rfl)
    (hfew : ((backTo cpos (starEach [e] X.env)).all (fun x => !x.1) && (backToKw cpos (keywordEach [] X.env)).all (fun x => x.1.isSome)
      && decide ([e].length + ([] : List Keyword).length + (if ([] : List Keyword).isEmpty then 0 else 1) < 30)) = true := by rfl)
    (hline : (apos.endLine == cpos.line) = true := by rfl) (hs : starEach [e] X.env = (false, eval e X.env) :: starEach [] X.env := by rfl) (hplain : (backTo cpos (starEach [] X.env)).any (·.1) = false := by rfl) :
    PE X (.Call (.Attribute o "index" apos) [e] [] cpos) (tR X.K Γ (.d (.i (j : Nat)))) :=
  pe_imp (pe_bm PySem.F.plainAttrs_list PySem.F.slot_list_index PySem.F.type_list_index mt_index ho (pa_cons he pa_nil hs) hbase hfew hline hs hplain) fun σ H Q ⟨Z, k, q⟩ => ⟨Z, k, fun v H1 n1 r1 => by
    obtain ⟨t, vs, e1, h1, h2⟩ := r1
    subst e1
    refine ⟨.inl ⟨rfl, vs, minus_keep.seqL h1⟩, Z, n1.ok, fun w H2 n2 r2 => ?_⟩
    have r2 : w = .int y := r2
    subst r2
    obtain rfl := dns_nums h2
    have gt : ∀ m : Nat, (ns.map V.int)[m]? = (ns[m]?).map V.int := fun m => by rw [List.getElem?_map]
    refine ⟨t, _, .int y, j, .int y, rfl, rfl, minus_keep.seqL (n2.kp.seqL h1), rfl, ?_, ?_, ?_, fun m z hm hz => ?_, q _ H2 (n1.trans n2) rfl⟩
    · rw [List.all_eq_true]
      intro z hz
      obtain ⟨i, _, rfl⟩ := List.mem_map.mp hz
      rfl
    · rw [gt, hj]
      rfl
    · simp [eqV]
    · rw [gt] at hz
      obtain ⟨i, hi, rfl⟩ := Option.map_eq_some_iff.mp hz
      have : i ≠ y := fun z => hno m hm (by rw [hi, z])
      simp [eqV, this]⟩
theorem js_setItemO (i : Nat) {j : Int} {m : Nat} (hv : Γ[i]? = some (.o (cl X.K ds))) (he : PE X e (tR X.K Γ (.d d))) (hj : PE X a (tR X.K Γ (.d (.i j)))) (hm : ixN ds.length j = some m) (h : Ψ (.nx (Γ.set i (.o (cl X.K (ds.set m d)))))) (hN : X.N[i]? = some x := by rfl) (hx : Vis X.env.scope x := by first | exact Or.inl rfl | exact Or.inr (Or.inl rfl) | exact Or.inr (Or.inr rfl))
    (hd : (x == ("__debug__" : Str)) = false := by decide) (hcd : (x == ("__classdict__" : Str)) = false := by decide) (hs : swapsWithSole [.Subscript (.Name x p') a p3] e pos.line X.env = pure false := by rfl) (hw : swappedStores [.Subscript (.Name x p') a p3] e X.env = pure none := by rfl)
    (h1 : (assignEach [.Subscript (.Name x p') a p3] X.env).map (·.2) = [assign (.Subscript (.Name x p') a p3) X.env] := by rfl)
    (ha : ∀ v, assign (.Subscript (.Name x p') a p3) X.env v = (do
      let ov ← holding [v] (eval (.Name x p') X.env)
      let iv ← holding [v, ov] (eval a X.env)
      standAt p3
      holding [v, ov, iv] (setItem ov iv v)
      release [v, ov, iv] []) := by intro _; rfl) :
    PS X (.Assign [.Subscript (.Name x p') a p3] e pos) (tS X.K Γ Ψ) :=
  js_setItem i hv he hj hm h hN hx (ps_asg he (pg_sub (pe_var hN hx hd hcd) hj set_list ha) hs hw h1)
end
end DL
namespace LC
theorem sum_set : ∀ (l : List Nat) (j v x : Nat), l[j]? = some x → (l.set j v).sum + x = l.sum + v
  | [], _, _, _, h => by simp at h
  | y :: l, 0, v, x, h => by
    have : y = x := Option.some.inj h
    subst this
    rw [List.set_cons_zero, List.sum_cons, List.sum_cons]
    omega
  | y :: l, j + 1, v, x, h => by
    have ih := sum_set l j v x (by simpa using h)
    rw [List.set_cons_succ, List.sum_cons, List.sum_cons]
    omega
/-- the first place of the greatest -/
theorem first_max : ∀ {l : List Nat}, l ≠ [] → ∃ j : Nat, l[j]? = some (lmax l) ∧ ∀ m : Nat, m < j → l[m]? ≠ some (lmax l) := fun {l} hl => by
  have hm : ∃ j : Nat, l[j]? = some (lmax l) := by
    rcases lmax_mem l with h | h
    · cases l with
      | nil => exact absurd rfl hl
      | cons x l =>
        have := le_lmax (l := x :: l) (x := x) List.mem_cons_self
        exact ⟨0, by rw [List.getElem?_cons_zero, h]; congr 1; omega⟩
    · exact List.getElem?_of_mem h
  have key : ∀ j : Nat, l[j]? = some (lmax l) → ∃ j : Nat, l[j]? = some (lmax l) ∧ ∀ m : Nat, m < j → l[m]? ≠ some (lmax l) := by
    intro j
    induction j using Nat.strongRecOn with
    | _ j ih =>
      intro hj
      by_cases q : ∃ m : Nat, m < j ∧ l[m]? = some (lmax l)
      · obtain ⟨m, h1, h2⟩ := q
        exact ih m h1 h2
      · exact ⟨j, hj, fun m hm z => q ⟨m, hm, z⟩⟩
  obtain ⟨j, hj⟩ := hm
  exact key j hj
end LC
namespace LW
open PySem PySem.Spec L2 DL LC QL
section
variable {P : Program} {w : World} {K : PySem.W.Frag} {mg : Str → Option Value} {base : Heap} {f : Addr} {fd : FuncData}
abbrev sFw : Stmt := topS 63
abbrev nFw : List Str := ["_law_row", "_law_clock", "_law_editions", "_law_book", "_law_one"]
abbrev psFw : List Str := ["_law_row"]
theorem scFw : FnScope nFw psFw (defScope sFw) := ⟨rfl, rfl, rfl, by decide +kernel, rfl, by decide +kernel, by decide +kernel⟩
def pmFw (K : PySem.W.Frag) : PmM := ⟨Unit, fun _ A => rowE K A, fun _ => [], fun _ => True, fun _ r => ∃ c, r = eC c ∧ Good c, fun _ A => rowE K A⟩
theorem ok_fw (B : Blt mg) (GT : DfM P w K mg base 1 "_law_taken" psTk (pmTk K)) (GL : DfM P w K mg base 2 "_law_low_clock" psLC (pmLC K)) (F : Fun K "_law_few" "_law_few" sFw f fd) : FnOk P w K mg base CX0 3 f fd psFw (spM K (pmFw K)) := by
  refine fn_okM F scFw (fun _ => rfl) (fun _ _ => by simp [pmFw]) (by decide) (fun _ _ _ _ _ ⟨_, _, h, _⟩ => h) fun cdv A outer s H E _ a hr _ => ?_
  show PSs _ _ (tS K [.o (rowE K a), .u, .u, .u, .u] _)
  obtain ⟨fl, fdl, Fl, hml, kpl, bl⟩ := GL.ex
  refine js_cons (js_setN 1 (P := fun d => ∃ c per n, d = eC c ∧ 1 ≤ per ∧ per ≤ 4 ∧ 1 ≤ n ∧ n ≤ 3 ∧ LowC per n 2 c) scFw.nd (je_callM 0 Fl (hr.mono (by decide)) hml kpl bl rfl (PP := fun ss => ∃ per n, 1 ≤ per ∧ per ≤ 4 ∧ 1 ≤ n ∧ n ≤ 3 ∧ ss = [.d (eN per), .d (eN n), .d (eN 2), .d (eN 5)])
    (jau_imp (jau_cons (jn_add (P3 := fun d => ∃ k, k < 4 ∧ d = eN (1 + k)) (jn_d je_int) (je_tk 0 (m := 4) GT hr (by decide) rowC_E je_int rfl (by decide) (by decide)) fun d1 d2 e1 ⟨k, hk, e2⟩ => ⟨1, k, e1, e2, k, hk, by unfold eN; congr 1⟩) (jau_cons (jn_add (P3 := fun d => ∃ k, k < 3 ∧ d = eN (1 + k)) (jn_d je_int) (je_tk 0 (m := 3) GT hr (by decide) rowC_E je_int rfl (by decide) (by decide)) fun d1 d2 e1 ⟨k, hk, e2⟩ => ⟨1, k, e1, e2, k, hk, by unfold eN; congr 1⟩) (jau_a (ja_cons (s := .d (eN 2)) je_int (ja_cons (s := .d (eN 5)) je_int ja_nil))))) fun ss h => ?_) fun ss h a' ob B' on => ?_) fun d1 h => ?_)
  · obtain ⟨d, r, rfl, ⟨k, hk, rfl⟩, d2, r2, rfl, ⟨k2, hk2, rfl⟩, e⟩ := h
    have e : r2 = [.d (eN 2), .d (eN 5)] := e
    subst e
    exact ⟨1 + k, 1 + k2, by omega, by omega, by omega, by omega, rfl⟩
  · obtain ⟨per, n, h1, h2, h3, h4, rfl⟩ := h
    obtain ⟨q1, q2⟩ := rowC_E2 rowC_E on
    exact ⟨(per, n, 2, 5), rfl, ⟨h1, h2, h3, h4, Nat.le_refl _, Nat.le_refl _⟩, q1, fun d ⟨c, e, hc⟩ => ⟨c, per, n, e, h1, h2, h3, h4, hc⟩, q2⟩
  obtain ⟨c, per, n, rfl, hp1, hp4, hn1, hn3, hL⟩ := h
  refine js_cons (js_setF 2 (P := (· = cl K (nums (nn c.eds)))) scFw.nd (je_listT B.list (je_ix (jv 1) je_int)) fun cc hc => ?_)
  subst hc
  refine js_cons (js_while (fun m Γ' => ∃ es : List Nat, m = es.sum ∧ es.length = n ∧ (∀ x ∈ es, x ≤ 2) ∧ Γ' = [.o (rowE K a), .d (eC c), .o (cl K (nums (nn es))), .u, .u]) PassesOwn.never c.eds.sum ⟨c.eds, rfl, hL.hn, hL.ed, rfl⟩ fun m Γ' hI => ?_)
  obtain ⟨es, rfl, hl, hes, rfl⟩ := hI
  refine ⟨decide ((4 : Int) < (es.sum : Nat)), jt_lend 2 lend_pl (jt_is (jt_gt (je_sumL rfl B.sum (jvp 2) rfl) je_int) (by rw [nn_sum])), fun z => ?_, fun z => ?_⟩
  · have z := of_decide_eq_true z
    have hne : es ≠ [] := fun q => by
      rw [q] at hl
      simp at hl
      omega
    obtain ⟨j, hj, hno⟩ := first_max hne
    have hjl := (List.getElem?_eq_some_iff.mp hj).1
    have hmx : lmax es ≤ 2 := hes _ (List.mem_of_getElem? hj)
    have hm0 : 0 < lmax es := Nat.pos_of_ne_zero fun q => by
      have h1 := sum_lek (m := 0) (l := es) fun x hx => by have := le_lmax hx; omega
      rw [Nat.zero_mul] at h1
      omega
    have nnat : ∀ m : Nat, (nn es)[m]? = (es[m]?).map fun (n : Nat) => (n : Int) := fun m => by unfold nn; rw [List.getElem?_map]
    have hmm : ((lmax es : Nat) : Int) ∈ nn es := mem_nn.mpr (List.mem_of_getElem? hj)
    have hmy : ∀ y ∈ nn es, y ≤ ((lmax es : Nat) : Int) := fun y hy => by
      unfold nn at hy
      obtain ⟨x, hx, rfl⟩ := List.mem_map.mp hy
      have := le_lmax hx
      omega
    refine js_one (js_setItemO 2 (j := (j : Nat)) (m := j) rfl (je_is (je_sub (je_lend 2 lend_pl (je_maxL rfl B.max (jvp 2) rfl hmm hmy)) je_int) (show D.i _ = eN (lmax es - 1) from ?_)) (je_lend 2 lend_pl (je_index (ns := nn es) (y := ((lmax es : Nat) : Int)) (jvp 2) (je_maxL rfl B.max (jvp 2) rfl hmm hmy) ?_ fun m hm q => ?_)) ?_ ?_)
    · unfold eN
      congr 1
      omega
    · rw [nnat, hj]
      rfl
    · rw [nnat] at q
      obtain ⟨x, hx, e⟩ := Option.map_eq_some_iff.mp q
      have : x = lmax es := by omega
      exact hno m hm (by rw [hx, this])
    · rw [nn_len]
      exact ixN_of hjl
    · have hs := sum_set es j (lmax es - 1) _ hj
      refine ⟨(es.set j (lmax es - 1)).sum, by omega, es.set j (lmax es - 1), rfl, by rw [List.length_set, hl], fun x hx => ?_, ?_⟩
      · rcases List.mem_or_eq_of_mem_set hx with q | q
        · exact hes x q
        · omega
      · rw [nums_nn, nums_nn, ← List.map_set]
        rfl
  · have z := of_decide_eq_false z
    refine js_freezeP 2 lend_pl ?_
    have ho : ∀ x ∈ c.bk, x.1 < es.length ∧ x.2.2.1 < es.length := fun x hx => by
      have := hL.bv x hx
      omega
    have lb : c.bk.length ≤ 20 := hL.bn
    refine js_cons (js_set 3 (d := .t ((c.bk.filter fun x => decide (x.2.1 ≤ at_ es x.1) && decide (x.2.2.2 ≤ at_ es x.2.2.1)).map e4)) scFw.nd (je_tupleL B.tuple (je_fp (je_lc (xs := c.bk) (enc := e4) (f := e4) (pb := fun x => decide (x.2.1 ≤ at_ es x.1) && decide (x.2.2.2 ≤ at_ es x.2.2.1)) (Γe := fun x => [.o (rowE K a), .d (eC c), .p (pl K (nums (nn es))), .u, .d (e4 x)]) [("_law_one", 4)] rfl scFw.nd
      (ji_tup (je_ix (jv 1) je_int)) (blkOk_by (N := nFw) (sc := defScope sFw) (by decide +kernel)) (tg_name 4) (by decide) rfl (fun x _ => rfl) (by omega) (fun _ _ _ _ _ => pg_name scFw.nd rfl (Or.inl rfl)) (fun x hx s H C cl fp => jts_one (jt_is (PW.pt (jw_and (jt_le (je_ix (jv 4) je_int) (je_ixl (jvp 2) (je_ix (jv 4) je_int) (ix_nn (ho x hx).1))) fun _ => jw_and1 (jt_le (je_ix (jv 4) je_int) (je_ixl (jvp 2) (je_ix (jv 4) je_int) (ix_nn (ho x hx).2))))) ?_)) (fun x hx _ s H C cl fp => jv 4)))) ?_)
    · rw [Bool.eq_iff_iff]
      simp only [Bool.and_eq_true, decide_eq_true_iff, Int.ofNat_le]
    refine js_one (js_ret (d := eC ⟨c.per, es, c.tch, c.gps, c.bk.filter fun x => decide (x.2.1 ≤ at_ es x.1) && decide (x.2.2.2 ≤ at_ es x.2.2.1)⟩) (je_tup (ds := [eN c.per, eT es, .t (c.tch.map e3), .t (c.gps.map eT), .t ((c.bk.filter fun x => decide (x.2.1 ≤ at_ es x.1) && decide (x.2.2.2 ≤ at_ es x.2.2.1)).map e4)]) (ja_cons (je_ix (jv 1) je_int) (ja_cons (je_tupleL B.tuple (jvp 2)) (ja_cons (je_ix (jv 1) je_int) (ja_cons (je_ix (jv 1) je_int) (ja_cons (jv 3) ja_nil)))))) ⟨rfl, _, rfl, _, rfl, ?_⟩)
    have hper := hL.hper
    refine ⟨by show 0 < c.per; omega, by show c.per ≤ 4; omega, by show 0 < es.length; omega, by show es.length ≤ 3; omega, hes, by show es.sum ≤ 4; omega, hL.tn, fun t ht => ?_, hL.ts, by show c.gps.length = es.length; rw [hL.gn, hl], fun g hg => ?_, Nat.le_trans (List.length_filter_le _ _) lb, fun x hx => ?_, hL.bs.sublist List.filter_sublist⟩
    · have := hL.tv t ht
      show t.1 < c.per ∧ t.2.1 < t.2.2 ∧ t.2.2 < es.length
      omega
    · have := hL.gv g hg
      rw [hper]
      exact this
    · obtain ⟨h1, h2⟩ := List.mem_filter.mp hx
      have h3 := hL.bv x h1
      rw [Bool.and_eq_true, decide_eq_true_iff, decide_eq_true_iff] at h2
      show x.1 < es.length ∧ x.2.2.1 < es.length ∧ x.1 ≠ x.2.2.1 ∧ 1 ≤ x.2.1 ∧ x.2.1 ≤ at_ es x.1 ∧ 1 ≤ x.2.2.2 ∧ x.2.2.2 ≤ at_ es x.2.2.1
      omega
end
end LW
end

section
set_option Elab.async false
set_option linter.all false
set_option maxRecDepth 100000
set_option maxHeartbeats 4000000
/-! J5: counted tuples: written, joined, asked. -/
namespace DL
open PySem PySem.Spec PyProof.Rows L2
section
variable {X : Cx} {K : PySem.W.Frag} {Γ : En} {o a b c e tg : Expr} {es : List Expr} {pos p p' apos cpos : Pos} {d : D} {ns ms : List Int} {ta : TA}
/-- a written tuple, its object known -/
def tTupF (t : TA) : TE := fun σ H Q => t σ H fun ys H1 => ys.length ≤ sizeLine ∧ ∀ p o, H1 p = none → o.cls = .type "tuple" → o.dict = none → Q (.ref p) (upd H1 p (.frz o (.tup ys)))
theorem pe_tupF {n : Nat} (h : PA X es ta) : PE X (.Tuple es n pos) (tTupF ta) := by
  constructor
  intro pins s σ H Q I hq
  refine wpAny_Tuple_spliced (thn (h.run pos pins s σ H _ I hq) ?_)
  rintro us t ⟨ys, H1, J, rv, z, q⟩
  refine ⟨by rw [← rv.length]; exact z, ?_⟩
  have fr : H1 t.heap.objs.size = none := J.hok.fresh (Nat.le_refl _)
  exact ⟨.ref t.heap.objs.size, _, J.laid (t' := t.toks) (o := .frz { cls := .type "tuple", data := .seq us.toArray } (.tup ys)) (fun b u e => Heap.get?_push_of_some _ e) (Nat.le_refl _) ⟨Heap.get?_push_size _ rfl, z, us, rv, ⟨_, Heap.get?_push_size _ rfl, rfl, _, rfl⟩⟩, rfl, q _ _ fr rfl rfl⟩
def rCatC (K : PySem.W.Frag) : R2 := fun x y H Q => ∃ a b xs ys, x = .ref a ∧ y = .ref b ∧ SqT K H a xs ∧ SqT K H b ys ∧ xs.length + ys.length ≤ sizeLine ∧
  (xs = [] → Q (.ref b) H) ∧ (xs ≠ [] → ys = [] → Q (.ref a) H) ∧ (xs ≠ [] → ys ≠ [] → ∀ p o, H p = none → o.cls = .type "tuple" → o.dict = none → Q (.ref p) (upd H p (.frz o (.tup (xs ++ ys)))))
theorem op_catC : OpR X (binaryOp .Add) (rCatC X.K) := by
  rintro pins s σ H _ _ v u Q I rx ry ⟨a, b, xs, ys, rfl, rfl, ha, hb, hz, q0, q1, q2⟩
  by_cases hx : xs = []
  · exact op_catA pins s σ H _ _ v u Q I rx ry ⟨a, b, xs, ys, rfl, rfl, ha, hb, hz, q0, (fun z => absurd hx z), fun z => absurd hx z⟩
  · cases rx
    cases ry
    obtain ⟨ta, ra, pa, _⟩ := I.tuple ha
    obtain ⟨tb, rb, pb, _⟩ := I.tuple hb
    refine HT.cat_tup pa pb (fun z => hx (ra.nil_iff.mp z)) (fun z => ⟨.ref a, H, I, rfl, q1 hx (rb.nil_iff.mp z)⟩) (fun z => ?_) (by rw [← ra.length, ← rb.length]; exact hz)
    have fr : H s.heap.objs.size = none := I.hok.fresh (Nat.le_refl _)
    have hl : (xs ++ ys).length ≤ sizeLine := by rw [List.length_append]; exact hz
    exact ⟨.ref s.heap.objs.size, _, I.laid (t' := s.toks) (o := .frz _ (.tup (xs ++ ys))) (fun _ _ q => Heap.get?_push_of_some _ q) (Nat.le_refl _) ⟨Heap.get?_push_size _ rfl, hl, _, ra.append rb, IsTup.new _ _⟩, rfl, q2 hx (fun w => z (rb.nil_iff.mpr w)) _ _ fr rfl rfl⟩
theorem CT.new {H : Hp} {q : Addr} {ob : Obj} {vs : List V} (h1 : H q = some (.frz ob (.tup vs))) (hv : vs = ns.map V.int) (hc : ob.cls = .type "tuple") (hd : ob.dict = none) : CT K H q ns := .inl ⟨ob, by rw [h1, hv], hc, hd⟩
/-- (x, ..) of ints -/
theorem je_tupC {n : Nat} (h : PA X es (tA K Γ ((nums ns).map .d))) (hl : ns.length ≤ 100000 := by simp) : PE X (.Tuple es n pos) (tR K Γ (.d (.c ns))) :=
  pe_imp (pe_tupF h) fun σ H Q ⟨Z, k, q⟩ => ⟨Z, k, fun vs H1 n r => by
    have r' := rvs_d r
    obtain rfl := dns_nums r'
    refine ⟨by rw [List.length_map]; exact Nat.le_trans hl (by decide), fun t o ht hc hd => ?_⟩
    have n2 : Nx K Z σ Γ H1 (upd H1 t (.frz o (.tup (ns.map V.int)))) := Nx.new n.ok ht
    exact q _ _ (n.trans n2) ⟨t, rfl, CT.new (minus_of upd_same (n.ok.fresh ht)) rfl hc hd⟩⟩
theorem je_catC (ha : PE X a (tR X.K Γ (.d (.c ns)))) (hb : PE X b (tR X.K Γ (.d (.c ms)))) (hz : ns.length + ms.length ≤ 100000) : PE X (.BinOp a .Add b pos) (tR X.K Γ (.d (.c (ns ++ ms)))) :=
  je_op op_catC (fun B H v w Q kb tk h1 h2 q => by
    obtain ⟨t, e1, c1⟩ := h1
    obtain ⟨u, e2, c2⟩ := h2
    subst e1 e2
    have d1 := c1.mono kb.tk
    have d2 := c2.mono kb.tk
    refine ⟨t, u, _, _, rfl, rfl, d1.seq, d2.seq, by rw [List.length_map, List.length_map]; exact Nat.le_trans hz (by decide), fun z => ?_, fun _ z => ?_, fun _ _ p o hp hc hd => ?_⟩
    · have e : ns = [] := List.map_eq_nil_iff.mp z
      subst e
      exact q _ H (Keep.refl H) ⟨u, rfl, d2⟩
    · have e : ms = [] := List.map_eq_nil_iff.mp z
      subst e
      rw [List.append_nil] at q
      exact q _ H (Keep.refl H) ⟨t, rfl, d1⟩
    · exact q _ _ (Keep.new hp) ⟨p, rfl, CT.new upd_same (by rw [List.map_append]) hc hd⟩) ha hb
theorem je_lenC (hm : X.mg "len" = none) (ha : PE X e (tR X.K Γ (.d (.c ns)))) (hg : Gl X "len" := by rfl) (he : starEach [e] X.env = (false, eval e X.env) :: starEach [] X.env := by rfl) : PE X (.Call (.Name "len" p) [e] [] pos) (tR X.K Γ (.d (.i ns.length))) :=
  je_callB call_len_seq (fun B H vs Q kb tk h q => by
    obtain ⟨v, r, e, ⟨t, e1, h1⟩, h3⟩ := h
    have h3 : r = [] := h3
    subst h3 e1
    refine ⟨t, _, e, .inr (h1.mono kb.tk).seq, ?_⟩
    rw [List.length_map]
    exact q _ H (Keep.refl H) rfl) hm PySem.boot_len (ja_cons ha ja_nil he) hg (by decide) (by decide) he
theorem o2_inC {n : Int} {neg : Bool} : Op2 K (rIn K neg) (.d (.i n)) (.d (.c ns)) (.b (if neg then !decide (n ∈ ns) else decide (n ∈ ns))) := fun B H x y Q kb tk h1 h2 q => by
  obtain ⟨t, e1, h2⟩ := h2
  have h1 : x = .int n := h1
  subst h1
  refine ⟨t, _, e1, .inr (h2.mono kb.tk).seq, rfl, flat_nums ns, ?_⟩
  rw [inV_nums]
  exact q _ H (Keep.refl H) rfl
theorem jt_niC {n : Int} (ha : PE X a (tR X.K Γ (.d (.i n)))) (hb : PE X b (tR X.K Γ (.d (.c ns)))) (hm : behindInMarks .NotIn b = false := by rfl) : PT X (.Compare a [.NotIn] [b] pos) (tT X.K Γ (!decide (n ∈ ns))) := jt_cmp op_notIn_seq o2_inC ha hb hm
theorem ji_tupC (h : PE X e (tR X.K Γ (.d (.c ns)))) : PI X tg e (tI X.K Γ (nums ns)) :=
  pi_imp (pi_tup h) fun σ H R ⟨Z, k, q⟩ => ⟨Z, k, fun v H1 n r => by
    obtain ⟨t, e1, h1⟩ := r
    have dn : ∀ H2, Dns X.K H2 (nums ns) (ns.map V.int) := fun H2 => nums_dns
    refine ⟨t, e1, ⟨_, minus_keep.tk.seqT h1.seq⟩, q _ H1 (fun H2 => SqT X.K H2 t (ns.map V.int)) (YAt (ns.map V.int)) n (by rw [← (dn H1).len]; exact walk_tup) (fun H2 k => k.tk.seqT h1.seq) fun i Ha x Hb _ k y => ?_⟩
    obtain ⟨rfl, hx⟩ := y
    obtain ⟨d, e, hd⟩ := (dn Hb).get hx
    exact ⟨.inl rfl, d, e, hd⟩⟩
/-! the method of a counted tuple -/
def tyC (K : PySem.W.Frag) (x : V) (H : Hp) : Prop := ∃ q ns, x = .ref q ∧ CT K H q ns
theorem tyC_is {pins : List (Addr × Obj)} {σ : L2.St} {H : Hp} {s : Shared} {x : V} {v : Value} (I : L2.Inv X pins σ H s) (r : RelV x v) (ty : tyC X.K x H) : s.TypeIs v "tuple" ∧ ∀ a, v = .ref a → ∃ ob, s.heap.get? a = some ob ∧ ob.dict = none := by
  obtain ⟨q, ns, rfl, h⟩ := ty
  cases r
  have z : ∃ ob, s.heap.get? q = some ob ∧ ob.cls = .type "tuple" ∧ ob.dict = none := by
    rcases h with ⟨o, h1, h2, h3⟩ | ⟨o, h1, h2, h3, _⟩
    · exact ⟨o, (I.hok q _ h1).1, h2, h3⟩
    · exact ⟨o, I.kIn q o h1, h2, h3⟩
  obtain ⟨ob, h1, h2, h3⟩ := z
  exact ⟨⟨ob, h1, h2⟩, fun a e => by cases e; exact ⟨ob, h1, h3⟩⟩
def tCM (K : PySem.W.Frag) (r : V → List V → Hp → VK → Prop) (to : TE) (t : TA) : TE := fun σ H Q => to σ H fun x H1 => tyC K x H1 ∧ t σ H1 fun xs H2 => r x xs H2 Q
theorem pe_cm {name : Str} {id : String} {r : V → List V → Hp → VK → Prop} {to : TE} (slot : Slot "tuple" name id) (hty : typeOf (.builtin id) = pure (.type "method_descriptor")) (hm : MtR X id r) (ho : PE X o to) (ha : PA X [e] ta)
    (hbase : attributeBase o name X.env (eval o X.env) = eval o X.env := by rfl)
    (hfew : ((backTo cpos (starEach [e] X.env)).all (fun x => !x.1) && (backToKw cpos (keywordEach [] X.env)).all (fun x => x.1.isSome)
      && decide ([e].length + ([] : List Keyword).length + (if ([] : List Keyword).isEmpty then 0 else 1) < 30)) = true := by rfl)
    (hline : (apos.endLine == cpos.line) = true := by rfl) (hs : starEach [e] X.env = (false, eval e X.env) :: starEach [] X.env := by rfl) (hplain : (backTo cpos (starEach [] X.env)).any (·.1) = false := by rfl) :
    PE X (.Call (.Attribute o name apos) [e] [] cpos) (tCM X.K r to ta) := by
  constructor
  intro pins s σ H Q I h
  refine wpAny_Call_method_late hbase hfew hline rfl (thn (ho.run pins s σ H _ I h) fun v t1 ⟨y, H1, J1, ry, ty, q1⟩ => ?_)
  have hty2 := tyC_is J1 ry ty
  refine ⟨"tuple", id, PySem.F.plainAttrs_tuple, slot, hty, hty2.1, hty2.2, ?_⟩
  have hA := ha.run cpos pins t1 σ H1 _ J1 q1
  rw [hs] at hA ⊢
  refine Calls.callWith_builtin (by show (false || (backTo cpos (starEach [] X.env)).any (·.1)) = false; rw [hplain] <;> rfl) (Calls.evalArgs_plain ?_)
  exact thn hA fun us t2 ⟨vs, H2, J2, r2, q2⟩ => hm pins t2 σ H2 y vs v us Q J2 ry r2 q2
/-- t.count(x) -/
theorem je_countC {n : Int} (ho : PE X o (tR X.K Γ (.d (.c ns)))) (he : PE X e (tR X.K Γ (.d (.i n))))
    (hbase : attributeBase o "count" X.env (eval o X.env) = eval o X.env := by rfl)
    (hfew : ((backTo cpos (starEach [e] X.env)).all (fun x => !x.1) && (backToKw cpos (keywordEach [] X.env)).all (fun x => x.1.isSome)
      && decide ([e].length + ([] : List Keyword).length + (if ([] : List Keyword).isEmpty then 0 else 1) < 30)) = true := by rfl)
    (hline : (apos.endLine == cpos.line) = true := by rfl) (hs : starEach [e] X.env = (false, eval e X.env) :: starEach [] X.env := by rfl) (hplain : (backTo cpos (starEach [] X.env)).any (·.1) = false := by rfl) :
    PE X (.Call (.Attribute o "count" apos) [e] [] cpos) (tR X.K Γ (.d (.i (ns.count n : Nat)))) :=
  pe_imp (pe_cm PySem.F.slot_tuple_count PySem.F.type_tuple_count mt_tcount ho (pa_cons he pa_nil hs) hbase hfew hline hs hplain) fun σ H Q ⟨Z, k, q⟩ => ⟨Z, k, fun v H1 n1 r1 => by
    obtain ⟨t, e1, h1⟩ := r1
    subst e1
    refine ⟨⟨t, ns, rfl, h1.mono minus_keep.tk⟩, Z, n1.ok, fun w H2 n2 r2 => ?_⟩
    have r2 : w = .int n := r2
    subst r2
    exact ⟨t, ns, n, rfl, rfl, ((h1.mono n2.kp.tk).mono minus_keep.tk).seq, q _ H2 (n1.trans n2) rfl⟩⟩
end
end DL
end

section
set_option Elab.async false
set_option linter.all false
set_option maxRecDepth 100000
set_option maxHeartbeats 8000000
/-! J6: _law_has_deed. -/
namespace LC
open DL LW
/-- who is done of a lot -/
def laterOf (s dn : List Nat) : List Nat := s.zipIdx.map fun x => x.1 + dn.count x.2
def okDone (c : Clk) (p : Nat) (s : List Nat) (l : Nat) (ks : List (Nat × List Nat × Nat)) (lot dn : List Nat) : Bool :=
  !((dn.filter fun w => !decide (w ∈ lot)).isEmpty && decide (lot.length ≤ l + dn.length)) || ((notFit c (laterOf s dn) p).isEmpty && decide (((p + 1) % c.per, laterOf s dn, l + dn.length - lot.length) ∈ ks))
def goodLot (c : Clk) (p : Nat) (s : List Nat) (l : Nat) (ks : List (Nat × List Nat × Nat)) (lots : List (List Nat)) (lot : List Nat) : Bool := lots.all fun dn => okDone c p s l ks lot dn
def hasDeed (c : Clk) (p : Nat) (s : List Nat) (l : Nat) (ks : List (Nat × List Nat × Nat)) : Bool := decide (s = c.eds) || (subs (openW c p s)).any (goodLot c p s l ks (subs (openW c p s)))
theorem zipIdx_at (l : List Nat) : l.zipIdx = (List.range l.length).map fun i => (at_ l i, i) := by
  apply List.ext_getElem?
  intro i
  rw [List.getElem?_zipIdx, List.getElem?_map]
  by_cases h : i < l.length
  · rw [at_get h, List.getElem?_range h]
    simp
  · rw [List.getElem?_eq_none (by omega), List.getElem?_eq_none (by rw [List.length_range]; omega)]
    rfl
theorem openW_eq (c : Clk) (p : Nat) (s : List Nat) : openW c p s = (List.range c.eds.length).filter fun w => decide (at_ s w < at_ c.eds w) && decide (p ∈ gapsOf c w) := by
  unfold openW
  rw [zipIdx_at, List.filter_map, List.map_map]
  simp [Function.comp_def]
end LC
namespace DL
open PySem PySem.Spec L2
section
variable {X : Cx} {K : PySem.W.Frag} {Γ : En} {e : Expr} {pos p p2 pos2 : Pos}
/-- list(range(n)) -/
theorem je_listR {n m : Int} (hnm : n = m) (hc : X.calm = true) (hm : X.mg "list" = none) (hr : X.mg "range" = none) (ha : PE X e (tR X.K Γ (.d (.i n)))) (hz : 0 ≤ n ∧ n ≤ 100000) (hg : Gl X "list" := by rfl) (hg2 : Gl X "range" := by rfl)
    (na : starEach [e] X.env = (false, eval e X.env) :: starEach [] X.env := by rfl) (nb : starEach [.Call (.Name "range" p2) [e] [] pos2] X.env = (false, eval (.Call (.Name "range" p2) [e] [] pos2) X.env) :: starEach [] X.env := by rfl) :
    PE X (.Call (.Name "list" p) [.Call (.Name "range" p2) [e] [] pos2] [] pos) (tF X.K Γ (· = cl X.K (nums (rng 0 m)))) := hnm ▸
  pe_imp (pe_listRg hc hg hm (prg_1 hg2 hr ha na) nb) fun σ H Q ⟨Z, k, q⟩ => ⟨Z, k, fun v H1 n1 r1 => ⟨n, r1, RgOk.of_le (Int.le_refl 0) (by omega) (by decide) hz.1, fun t ht => by
    refine q _ t _ _ rfl (n1.trans (Nx.new n1.ok ht)) (n1.free ht) upd_same ⟨_, rfl, ?_⟩
    have e : rgV 0 n = (rng 0 n).map V.int := by
      unfold rgV rng
      rw [List.map_map]
      rfl
    rw [e]
    exact nums_dns⟩⟩
theorem depth_e2 : ∀ l : List (Nat × Nat), PyData.depthAll (toPs (l.map LW.e2)) ≤ 1
  | [] => by simp [toPs, PyData.depthAll]
  | x :: l => by
    have := depth_e2 l
    simp only [List.map_cons, toPs, PyData.depthAll]
    have h : (toP (LW.e2 x)).depth = 1 := by
      simp [LW.e2, LW.eN, toP, toPs, PyData.depth, PyData.depthAll]
    omega
end
end DL
namespace LW
open PySem PySem.Spec L2 DL LC QL
def eLt (l : List Nat) : D := .c (nn l)
def eKT (k : Nat × List Nat × Nat) : D := .t [eN k.1, eT k.2.1, eN k.2.2]
def kT : KeyEnc (Nat × List Nat × Nat) where
  e := eKT
  tup := fun k => ⟨_, rfl⟩
  inj := fun k k' h => by
    have h : NestedKey.tup [.num (k.1 : Int), .tup (toNKs (nums (nn k.2.1))), .num (k.2.2 : Int)] = NestedKey.tup [.num (k'.1 : Int), .tup (toNKs (nums (nn k'.2.1))), .num (k'.2.2 : Int)] := h
    rw [nk_T, nk_T] at h
    injection h with h
    injection h with h1 h2
    injection h1 with h1
    injection h2 with h2 h3
    injection h2 with h2
    injection h3 with h3 _
    injection h3 with h3
    exact Prod.ext (Int.ofNat_inj.mp h1) (Prod.ext (num_inj h2) (Int.ofNat_inj.mp h3))
  dep := fun k => by
    show NestedKey.depth (NestedKey.tup [.num (k.1 : Int), .tup (toNKs (nums (nn k.2.1))), .num (k.2.2 : Int)]) ≤ 8
    rw [nk_T]
    have := dep_nums k.2.1
    simp only [NestedKey.depth, NestedKey.depthAll]
    omega
  pln := fun k => by
    show plainD (.t [eN k.1, .t (nums (nn k.2.1)), eN k.2.2]) = true
    simp only [plainD, plainDs, eN, pln_nums, Bool.and_true]
section
variable {P : Program} {w0 : World} {K : PySem.W.Frag} {mg : Str → Option Value} {base : Heap} {f : Addr} {fd : FuncData}
abbrev sHD : Stmt := topS 66
abbrev nHD : List Str := ["_law_clock", "_law_phase", "_law_standing", "_law_left", "_law_found", "_law_every", "_law_wheel", "_law_wheels", "_law_lots", "_law_lot", "_law_fine", "_law_done", "_law_lost", "_law_later", "_law_key", "_law_edition"]
abbrev psHD : List Str := ["_law_clock", "_law_phase", "_law_standing", "_law_left", "_law_found"]
theorem scHD : FnScope nHD psHD (defScope sHD) := ⟨rfl, rfl, rfl, by decide +kernel, rfl, by decide +kernel, by decide +kernel⟩
abbrev KsT := List (Nat × List Nat × Nat)
def pmHD (P : Program) (w0 : World) (K : PySem.W.Frag) : Pm := ⟨Clk × Nat × List Nat × Nat × KsT, fun (c, p, s, l, ks) => [.d (eC c), .d (eN p), .d (eT s), .d (eN l), .p (nP kT P w0 K ks)], fun (c, p, s, _, _) => Good c ∧ Std c s ∧ p < c.per, fun (c, p, s, l, ks) r => r = .d (.b (hasDeed c p s l ks))⟩
theorem nn_inj {a b : List Nat} : nn a = nn b ↔ a = b := by
  unfold nn
  exact List.map_inj_right fun _ _ e => Int.ofNat_inj.mp e
theorem eLt_sub (a b : List (List Nat)) : (a ++ b).map eLt = a.map eLt ++ b.map eLt := List.map_append
theorem all_take {α : Type} {l : List α} {f : α → Bool} {i : Nat} {x : α} (h : l[i]? = some x) : (l.take (i + 1)).all f = ((l.take i).all f && f x) := by
  rw [List.take_add_one, h, List.all_append]
  simp
theorem any_take {α : Type} {l : List α} {f : α → Bool} {i : Nat} {x : α} (h : l[i]? = some x) : (l.take (i + 1)).any f = ((l.take i).any f || f x) := by
  rw [List.take_add_one, h, List.any_append]
  simp
theorem cnt_nn (l : List Nat) (n : Nat) : (nn l).count ((n : Nat) : Int) = l.count n := by
  induction l with
  | nil => rfl
  | cons x l ih =>
    have e : nn (x :: l) = (x : Int) :: nn l := rfl
    rw [e, List.count_cons, List.count_cons, ih]
    congr 1
    rw [show ((x : Int) == (n : Int)) = (x == n) by rw [Bool.eq_iff_iff, beq_iff_eq, beq_iff_eq]; exact Int.ofNat_inj]
theorem laterOf_len (s dn : List Nat) : (laterOf s dn).length = s.length := by
  unfold laterOf
  rw [List.length_map, List.length_zipIdx]
theorem ok_hd (B : Blt mg) (GB : Df P w0 K mg base 2 "_law_bad" psLB (pmLB K)) (F : Fun K "_law_has_deed" "_law_has_deed" sHD f fd) : FnOk P w0 K mg base CX0 3 f fd psHD (spP K (pmHD P w0 K)) := by
  refine fn_ok F scHD (fun _ => rfl) (fun _ _ => by simp [pmHD]) (by decide) fun cdv A outer s H E ⟨c, p, st, l, ks⟩ hr ⟨hg, hs, hp⟩ => ?_
  show PSs _ _ (tS K [.d (eC c), .d (eN p), .d (eT st), .d (eN l), .p (nP kT P w0 K ks), .u, .u, .u, .u, .u, .u, .u, .u, .u, .u, .u] _)
  have hu9 : (A.deeper (PyProof.Rows.envOfC "_law_has_deed" (defScope sHD) s.heap.objs.size f cdv)).units + 9 < cLine := by have := hr.un; omega
  have h3 := hg.n3
  have h0 := hg.per0
  refine js_cons (js_if (x := decide (nn st = nn c.eds)) (jt_eqT hr.units (jv 2) (je_ix (jv 0) je_int)) (fun z => js_one (js_ret je_bl ?_)) fun z => js_nil ?_)
  · have z := nn_inj.mp (of_decide_eq_true z)
    show Sl.d (.b true) = Sl.d (.b (hasDeed c p st l ks))
    unfold hasDeed
    rw [decide_eq_true z, Bool.true_or]
  have hne : ¬ st = c.eds := fun q => of_decide_eq_false z (nn_inj.mpr q)
  refine js_cons (js_setF 5 (P := (· = cl K (nums (rng 0 ((c.eds.length : Nat) : Int))))) scHD.nd (je_listR (by rw [nn_len]) rfl B.list B.range (je_lenT B.len (je_ix (jv 0) je_int)) ⟨by omega, by rw [nn_len]; omega⟩) fun cc hc => ?_)
  subst hc
  refine js_freezeP 5 lend_pl ?_
  refine js_cons (js_setLc 7 (xs := List.range c.eds.length) (enc := eN) (f := eN) (pb := fun w => decide (at_ st w < at_ c.eds w) && decide (p ∈ gapsOf c w)) (Γe := fun w => [.d (eC c), .d (eN p), .d (eT st), .d (eN l), .p (nP kT P w0 K ks), .p (pl K (nums (rng 0 ((c.eds.length : Nat) : Int)))), .d (eN w), .u, .u, .u, .u, .u, .u, .u, .u, .u]) [("_law_wheel", 6)] rfl scHD.nd rfl rfl (by simp) (sw_true rfl rfl rfl (by decide +kernel)) (ji_is (ji_list (jvp 5)) (rng_nn _)) (blkOk_by (N := nHD) (sc := defScope sHD) (by decide +kernel)) (tg_name 6) (by decide) rfl (fun x _ => rfl) (by rw [List.length_range]; omega) (fun _ _ _ _ _ => pg_name scHD.nd rfl (Or.inl rfl)) (fun w hw s H C cl fp => ?_) (fun w _ _ s H C cl fp => jv 6) ?_)
  · have hw := List.mem_range.mp hw
    refine jts_one (jt_is (PW.pt (jw_and (jt_lt (je_ix (jv 2) (jv 6) (ix_nn (by rw [hs.len]; exact hw))) (je_ix (je_ix (jv 0) je_int) (jv 6) (ix_nn hw))) fun _ => jw_and1 (jt_inT (jv 1) (je_ix (je_ix (jv 0) je_int) (jv 6) (ix_gaps (by rw [hg.gn]; exact hw)))))) ?_)
    rw [Bool.eq_iff_iff]
    simp only [Bool.and_eq_true, decide_eq_true_iff, Int.ofNat_lt, mem_nn]
  show PSs _ _ (tS K [.d (eC c), .d (eN p), .d (eT st), .d (eN l), .p (nP kT P w0 K ks), .p (pl K (nums (rng 0 ((c.eds.length : Nat) : Int)))), .u, .o (cl K (((List.range c.eds.length).filter fun w => decide (at_ st w < at_ c.eds w) && decide (p ∈ gapsOf c w)).map eN)), .u, .u, .u, .u, .u, .u, .u, .u] _)
  rw [← openW_eq]
  have hwl : (openW c p st).length ≤ 3 := by
    rw [openW_eq]
    refine Nat.le_trans (List.length_filter_le _ _) ?_
    rw [List.length_range]
    exact h3
  have hdef : hasDeed c p st l ks = (subs (openW c p st)).any (goodLot c p st l ks (subs (openW c p st))) := by
    unfold hasDeed
    rw [decide_eq_false hne, Bool.false_or]
  rw [show (pmHD P w0 K).R (c, p, st, l, ks) = fun r => r = Sl.d (.b ((subs (openW c p st)).any (goodLot c p st l ks (subs (openW c p st))))) from by rw [← hdef]; rfl]
  generalize openW c p st = ws at hwl
  refine js_freezeP 7 lend_pl ?_
  refine js_cons (js_setF 8 (P := (· = cl K ((subs []).map eLt))) scHD.nd (je_lst (ds := [.c []]) (ja_cons (je_tupC (ns := []) ja_nil) ja_nil)) fun cc hc => ?_)
  subst hc
  have sl : ∀ i, (subs (ws.take i)).length ≤ 8 := fun i => by
    rw [subs_len]
    have : (ws.take i).length ≤ 3 := by rw [List.length_take]; omega
    exact Nat.le_trans (Nat.pow_le_pow_right (by decide) this) (by decide)
  refine js_cons (js_for (ds := ws.map eN) (fun i Γ => ∃ x6 : Sl, Γ = [.d (eC c), .d (eN p), .d (eT st), .d (eN l), .p (nP kT P w0 K ks), .p (pl K (nums (rng 0 ((c.eds.length : Nat) : Int)))), x6, .p (pl K (ws.map eN)), .o (cl K ((subs (ws.take i)).map eLt)), .u, .u, .u, .u, .u, .u, .u]) PassesOwn.never rfl (ji_list (jvp 7)) (pg_name scHD.nd rfl (Or.inr rfl)) (tg_name 6) ⟨.u, rfl⟩ (fun i dd Γ' hd hI => ?_) fun Γ' hI => ?_)
  · obtain ⟨x6, rfl⟩ := hI
    rw [List.getElem?_map] at hd
    obtain ⟨x, hx, rfl⟩ := Option.map_eq_some_iff.mp hd
    refine ⟨[.d (eC c), .d (eN p), .d (eT st), .d (eN l), .p (nP kT P w0 K ks), .p (pl K (nums (rng 0 ((c.eds.length : Nat) : Int)))), .d (eN x), .p (pl K (ws.map eN)), .o (cl K ((subs (ws.take i)).map eLt)), .u, .u, .u, .u, .u, .u, .u], rfl, js_freeze 8 rfl (js_one (js_setF 8 (P := (· = cl K ((subs (ws.take i)).map eLt ++ ((subs (ws.take i)).filter fun _ => true).map fun o => eLt (o ++ [x])))) scHD.nd (je_catT (jvp 8) (je_ft (je_lc (xs := subs (ws.take i)) (enc := eLt) (f := fun o => eLt (o ++ [x])) (pb := fun _ => true) (Γe := fun o => [.d (eC c), .d (eN p), .d (eT st), .d (eN l), .p (nP kT P w0 K ks), .p (pl K (nums (rng 0 ((c.eds.length : Nat) : Int)))), .d (eN x), .p (pl K (ws.map eN)), .p (plt K ((subs (ws.take i)).map eLt)), .d (eLt o), .u, .u, .u, .u, .u, .u]) [("_law_lot", 9)] rfl scHD.nd
      (ji_list (je_pl (jvp 8))) (blkOk_by (N := nHD) (sc := defScope sHD) (by decide +kernel)) (tg_name 9) (by decide) rfl (fun x _ => rfl) (by have := sl i; omega) (fun _ _ _ _ _ => pg_name scHD.nd rfl (Or.inl rfl)) (fun _ _ _ _ _ _ _ => jts_nil) (fun o ho _ s H C cl fp => je_is (je_catC (ns := nn o) (ms := nn [x]) (jv 9) (je_tupC (ns := nn [x]) (ja_cons (jv 6) ja_nil) (Nat.le_of_ble_eq_true rfl)) ?_) ?_))) ?_) (fun cc hc => ?_) (hl := Nat.le_of_ble_eq_true rfl)))⟩
    · have h1 := sub_mem_len o ho
      rw [List.length_take] at h1
      unfold nn
      rw [List.length_map, List.length_map]
      simp only [List.length_cons, List.length_nil]
      omega
    · unfold eLt nn
      rw [List.map_append]
    · have := sl i
      rw [List.length_map, List.length_map]
      have h2 := List.length_filter_le (fun _ => true) (subs (ws.take i))
      omega
    · subst hc
      refine ⟨.d (eN x), ?_⟩
      rw [subs_take hx, eLt_sub, List.filter_eq_self.mpr (fun _ _ => rfl), List.map_map]
      rfl
  obtain ⟨x6, rfl⟩ := hI
  rw [List.length_map, List.take_length]
  refine js_freezeP 8 lend_pl (js_forget 6 (by simp) ?_)
  have hlen : (subs ws).length ≤ 8 := by have := sl ws.length; rwa [List.take_length] at this
  have hml : ∀ o ∈ subs ws, o.length ≤ 3 := fun o ho => Nat.le_trans (sub_mem_len o ho) hwl
  generalize hL : subs ws = lots at hlen hml
  refine js_cons (js_for (ds := lots.map eLt) (fun i Γ => ∃ x9 x10 x11 x12 x13 x14 : Sl, (lots.take i).any (goodLot c p st l ks lots) = false ∧ Γ = [.d (eC c), .d (eN p), .d (eT st), .d (eN l), .p (nP kT P w0 K ks), .p (pl K (nums (rng 0 ((c.eds.length : Nat) : Int)))), .u, .p (pl K (ws.map eN)), .p (pl K (lots.map eLt)), x9, x10, x11, x12, x13, x14, .u]) PassesOwn.never rfl (ji_list (jvp 8)) (pg_name scHD.nd rfl (Or.inr rfl)) (tg_name 9) ⟨.u, .u, .u, .u, .u, .u, rfl, rfl⟩ (fun i dd Γ' hd hI => ?_) fun Γ' hI => ?_)
  · obtain ⟨x9, x10, x11, x12, x13, x14, hno, rfl⟩ := hI
    rw [List.getElem?_map] at hd
    obtain ⟨lot, hlot, rfl⟩ := Option.map_eq_some_iff.mp hd
    have hll := hml lot (List.mem_of_getElem? hlot)
    refine ⟨[.d (eC c), .d (eN p), .d (eT st), .d (eN l), .p (nP kT P w0 K ks), .p (pl K (nums (rng 0 ((c.eds.length : Nat) : Int)))), .u, .p (pl K (ws.map eN)), .p (pl K (lots.map eLt)), .d (eLt lot), x10, x11, x12, x13, x14, .u], rfl, ?_⟩
    refine js_cons (js_set 10 (d := .b true) scHD.nd je_bl ?_)
    refine js_cons (js_for (ds := lots.map eLt) (fun j Γ => ∃ x11 x12 x13 x14 : Sl, Γ = [.d (eC c), .d (eN p), .d (eT st), .d (eN l), .p (nP kT P w0 K ks), .p (pl K (nums (rng 0 ((c.eds.length : Nat) : Int)))), .u, .p (pl K (ws.map eN)), .p (pl K (lots.map eLt)), .d (eLt lot), .d (.b ((lots.take j).all fun dn => okDone c p st l ks lot dn)), x11, x12, x13, x14, .u]) PassesOwn.never rfl (ji_list (jvp 8)) (pg_name scHD.nd rfl (Or.inr rfl)) (tg_name 11) ⟨x11, x12, x13, x14, rfl⟩ (fun j de Γ' hde hJ => ?_) fun Γ' hJ => ?_)
    · obtain ⟨y11, y12, y13, y14, rfl⟩ := hJ
      rw [List.getElem?_map] at hde
      obtain ⟨dn, hdn, rfl⟩ := Option.map_eq_some_iff.mp hde
      have hdl := hml dn (List.mem_of_getElem? hdn)
      generalize hfine : ((lots.take j).all fun dn => okDone c p st l ks lot dn) = fine
      refine ⟨[.d (eC c), .d (eN p), .d (eT st), .d (eN l), .p (nP kT P w0 K ks), .p (pl K (nums (rng 0 ((c.eds.length : Nat) : Int)))), .u, .p (pl K (ws.map eN)), .p (pl K (lots.map eLt)), .d (eLt lot), .d (.b fine), .d (eLt dn), y12, y13, y14, .u], rfl, ?_⟩
      refine js_cons (js_set 12 (d := .i ((lot.length : Nat) - (dn.length : Nat) : Int)) scHD.nd (je_is (je_sub (je_lenC B.len (jv 9)) (je_lenC B.len (jv 11))) (by unfold nn; rw [List.length_map, List.length_map])) ?_)
      refine js_one (js_if (x := fine && (((dn.filter fun w => !decide (w ∈ lot)).map eN).isEmpty && decide ((lot.length : Nat) - (dn.length : Nat) ≤ (l : Int)))) (PW.pt (jw_and (jt_val (jv 10)) fun _ => jw_and (jt_eqN hr.units (je_fp (je_lc (xs := dn) (enc := eN) (f := eN) (pb := fun w => !decide (w ∈ lot)) (Γe := fun w => [.d (eC c), .d (eN p), .d (eT st), .d (eN l), .p (nP kT P w0 K ks), .p (pl K (nums (rng 0 ((c.eds.length : Nat) : Int)))), .d (eN w), .p (pl K (ws.map eN)), .p (pl K (lots.map eLt)), .d (eLt lot), .d (.b fine), .d (eLt dn), .d (.i ((lot.length : Nat) - (dn.length : Nat) : Int)), y13, y14, .u]) [("_law_wheel", 6)] rfl scHD.nd
        (ji_is (ji_tupC (ns := nn dn) (jv 11)) (nums_nn dn)) (blkOk_by (N := nHD) (sc := defScope sHD) (by decide +kernel)) (tg_name 6) (by decide) rfl (fun x _ => rfl) (by omega) (fun _ _ _ _ _ => pg_name scHD.nd rfl (Or.inl rfl)) (fun w _ s H C cl fp => jts_one (jt_is (jt_niC (ns := nn lot) (jv 6) (jv 9)) ?_)) (fun w _ _ s H C cl fp => jv 6))) (je_fp (je_lst (ds := []) ja_nil)) ?_) fun _ => jw_and1 (jt_le (jv 12) (jv 3)))) (fun z => ?_) fun z => js_nil ?_)
      · congr 1
        exact decide_eq_decide.mpr mem_nn
      · rw [← nums_nn, depth_nums]
        omega
      · rw [Bool.and_eq_true, Bool.and_eq_true, List.isEmpty_map, decide_eq_true_iff] at z
        obtain ⟨z1, z2, z3⟩ := z
        have hz : lot.length ≤ l + dn.length := by omega
        refine js_cons (js_set 13 (d := eT (laterOf st dn)) scHD.nd (je_is (je_tupleL B.tuple (je_fp (je_lc (xs := st.zipIdx) (enc := fun p => .t [eN p.2, eN p.1]) (f := fun x => eN (x.1 + dn.count x.2)) (pb := fun _ => true) (Γe := fun x => [.d (eC c), .d (eN p), .d (eT st), .d (eN l), .p (nP kT P w0 K ks), .p (pl K (nums (rng 0 ((c.eds.length : Nat) : Int)))), .d (eN x.2), .p (pl K (ws.map eN)), .p (pl K (lots.map eLt)), .d (eLt lot), .d (.b fine), .d (eLt dn), .d (.i ((lot.length : Nat) - (dn.length : Nat) : Int)), y13, y14, .d (eN x.1)]) [("_law_wheel", 6), ("_law_edition", 15)] rfl scHD.nd
          (ji_is (ji_enumT B.enum (jv 2)) (enumD_nn st)) (blkOk_by (N := nHD) (sc := defScope sHD) (by decide +kernel)) (tg_names [6, 15]) (by decide) rfl (fun x _ => rfl) (by rw [List.length_zipIdx, hs.len]; omega) (fun _ _ _ _ _ => pg_tup rfl (pgs_cons (pg_name scHD.nd rfl (Or.inl rfl)) (pgs_cons (pg_name scHD.nd rfl (Or.inl rfl)) pgs_nil))) (fun _ _ _ _ _ _ _ => jts_nil) (fun x _ _ s H C cl fp => je_is (je_add (jv 15) (je_countC (ns := nn dn) (jv 11) (jv 6))) ?_)))) ?_) ?_)
        · unfold eN
          rw [cnt_nn]
          rfl
        · unfold eT laterOf
          rw [nums_nn, List.map_map, List.filter_eq_self.mpr (fun _ _ => rfl)]
          rfl
        refine js_cons (js_set 14 (d := eKT ((p + 1) % c.per, laterOf st dn, l + dn.length - lot.length)) scHD.nd (je_tup (ds := [eN ((p + 1) % c.per), eT (laterOf st dn), eN (l + dn.length - lot.length)]) (ja_cons (je_is (je_mod (y := (c.per : Int)) (by omega) (je_intI B.int (je_add (jv 1) je_int)) (je_ix (jv 0) je_int)) ?_) (ja_cons (jv 13) (ja_cons (je_is (je_sub (jv 3) (jv 12)) ?_) ja_nil)))) ?_)
        · unfold eN
          rfl
        · unfold eN
          congr 1
          omega
        refine js_one (js_set 10 (d := .b ((notFit c (laterOf st dn) p).isEmpty && decide (((p + 1) % c.per, laterOf st dn, l + dn.length - lot.length) ∈ ks))) scHD.nd (je_is (je_and (je_eqN hr.units (je_fp (jcF GB (c, laterOf st dn, p) hr (by decide) (ja_cons (jv 0) (ja_cons (jv 13) (ja_cons (jv 1) ja_nil))) ⟨hg, by rw [laterOf_len, hs.len], hp⟩ fun r h => ⟨_, h, rfl⟩)) (je_fp (je_lst (ds := []) ja_nil)) ?_) fun _ => je_one (je_nin (E := kT) (k := ((p + 1) % c.per, laterOf st dn, l + dn.length - lot.length)) hu9 (jv 14) (jvp 4))) ?_) ?_)
        · have := depth_e2 (notFit c (laterOf st dn) p)
          omega
        · rw [List.isEmpty_map]
          exact congrArg (fun t => D.b ((notFit c (laterOf st dn) p).isEmpty && t)) (decide_eq_decide.mpr Iff.rfl)
        · refine ⟨.d (eLt dn), .d (.i ((lot.length : Nat) - (dn.length : Nat) : Int)), .d (eT (laterOf st dn)), .d (eKT ((p + 1) % c.per, laterOf st dn, l + dn.length - lot.length)), ?_⟩
          rw [all_take hdn, hfine, z1, Bool.true_and]
          unfold okDone
          rw [z2, decide_eq_true hz, Bool.and_self, Bool.not_true, Bool.false_or]
          rfl
      · refine ⟨.d (eLt dn), .d (.i ((lot.length : Nat) - (dn.length : Nat) : Int)), y13, y14, ?_⟩
        rw [all_take hdn, hfine]
        have e : (fine && okDone c p st l ks lot dn) = fine := by
          cases fine with
          | false => rfl
          | true =>
            rw [Bool.true_and] at z ⊢
            unfold okDone
            have e2 : decide ((lot.length : Nat) - (dn.length : Nat) ≤ (l : Int)) = decide (lot.length ≤ l + dn.length) := decide_eq_decide.mpr (by omega)
            rw [List.isEmpty_map, e2] at z
            rw [z]
            rfl
        rw [e]
        rfl
    · obtain ⟨y11, y12, y13, y14, rfl⟩ := hJ
      rw [List.length_map, List.take_length]
      refine js_one (js_if (jt_val (jv 10)) (fun z => js_one (js_ret je_bl ?_)) fun z => js_nil ?_)
      · show Sl.d (.b true) = Sl.d (.b (lots.any (goodLot c p st l ks lots)))
        have : lots.any (goodLot c p st l ks lots) = true := List.any_eq_true.mpr ⟨lot, List.mem_of_getElem? hlot, z⟩
        rw [this]
      · refine ⟨.d (eLt lot), _, y11, y12, y13, y14, ?_, rfl⟩
        rw [any_take hlot, hno, Bool.false_or]
        exact z
  · obtain ⟨x9, x10, x11, x12, x13, x14, hno, rfl⟩ := hI
    rw [List.length_map, List.take_length] at hno
    refine js_one (js_ret je_bl ?_)
    show Sl.d (.b false) = Sl.d (.b (lots.any (goodLot c p st l ks lots)))
    rw [hno]
end
end LW
end

section
set_option Elab.async false
set_option linter.all false
set_option maxRecDepth 100000
set_option maxHeartbeats 8000000
/-! J7: _law_sure. -/
namespace LC
open DL LW
abbrev Ky := Nat × List Nat × Nat
def univT (c : Clk) (ms : Nat) : List Ky := (List.range (ms + 1)).flatMap fun l => (List.range c.per).flatMap fun p => (stds c.eds).map fun s => (p, s, l)
theorem mem_univT {c : Clk} {ms : Nat} {k : Ky} : k ∈ univT c ms ↔ k.2.2 ≤ ms ∧ k.1 < c.per ∧ k.2.1 ∈ stds c.eds := by
  unfold univT
  rw [List.mem_flatMap]
  constructor
  · rintro ⟨l, hl, h⟩
    obtain ⟨p, hp, h⟩ := List.mem_flatMap.mp h
    obtain ⟨s, hs, rfl⟩ := List.mem_map.mp h
    have := List.mem_range.mp hl
    exact ⟨by show l ≤ ms; omega, List.mem_range.mp hp, hs⟩
  · rintro ⟨h1, h2, h3⟩
    exact ⟨k.2.2, List.mem_range.mpr (by omega), List.mem_flatMap.mpr ⟨k.1, List.mem_range.mpr h2, List.mem_map.mpr ⟨k.2.1, h3, rfl⟩⟩⟩
def deedK (c : Clk) (ks : List Ky) (k : Ky) : Bool := hasDeed c k.1 k.2.1 k.2.2 ks
inductive RchT (c : Clk) (ms : Nat) : List Ky → Prop where
  | start : RchT c ms []
  | put {ks : List Ky} {x : Ky} (h : RchT c ms ks) (hx : x ∈ univT c ms) (hn : x ∉ ks) (hg : deedK c ks x = true) : RchT c ms (ks ++ [x])
def FoundOk (c : Clk) (ms : Nat) (ks : List Ky) : Prop := RchT c ms ks ∧ ∀ k ∈ univT c ms, k ∈ ks ∨ deedK c ks k = false
def unfT (us ks : List Ky) : Nat := (us.filter fun x => !decide (x ∈ ks)).length
theorem unfT_put {us ks : List Ky} {x : Ky} (hx : x ∈ us) (hn : x ∉ ks) : unfT us (ks ++ [x]) < unfT us ks := by
  unfold unfT
  have e : (us.filter fun y => !decide (y ∈ ks ++ [x])) = (us.filter fun y => !decide (y ∈ ks)).filter fun y => !decide (y = x) := by
    rw [List.filter_filter]
    congr 1
    funext y
    by_cases h1 : y ∈ ks <;> by_cases h2 : y = x <;> simp [h1, h2]
  rw [e]
  exact List.length_filter_lt_length_iff_exists.mpr ⟨x, List.mem_filter.mpr ⟨hx, by simp [hn]⟩, by simp⟩
theorem rchT_len {c : Clk} {ms : Nat} {ks : List Ky} (h : RchT c ms ks) : ks.length + unfT (univT c ms) ks ≤ (univT c ms).length := by
  induction h with
  | start =>
    have h2 : unfT (univT c ms) [] ≤ (univT c ms).length := List.length_filter_le _ _
    rw [List.length_nil]
    omega
  | put h hx hn hg ih =>
    have := unfT_put hx hn
    rw [List.length_append]
    simp only [List.length_cons, List.length_nil]
    omega
theorem univT_len {c : Clk} (hg : Good c) {ms : Nat} (h : ms ≤ 2) : (univT c ms).length ≤ 1000 := by
  have h3 := hg.n3
  have h4 := hg.per4
  have h1 : (stds c.eds).length ≤ 27 := by
    have := stds_size hg.ed c.eds.length (Nat.le_refl _)
    rw [List.take_length] at this
    have h5 : 3 ^ c.eds.length ≤ 3 ^ 3 := Nat.pow_le_pow_right (by decide) h3
    omega
  have h2 : ∀ l, ((List.range c.per).flatMap fun p => (stds c.eds).map fun s => ((p, s, l) : Ky)).length ≤ c.per * 27 := fun l => by
    have := flat_len 27 (fun p => (stds c.eds).map fun s => ((p, s, l) : Ky)) (List.range c.per) fun x _ => by rw [List.length_map]; exact h1
    rwa [List.length_range] at this
  have h6 := flat_len (c.per * 27) (fun l => (List.range c.per).flatMap fun p => (stds c.eds).map fun s => ((p, s, l) : Ky)) (List.range (ms + 1)) fun l _ => h2 l
  rw [List.length_range] at h6
  have h7 : (ms + 1) * (c.per * 27) ≤ 3 * (4 * 27) := Nat.mul_le_mul (by omega) (by omega)
  unfold univT
  omega
/-- in a pass over all keys -/
def GrI (c : Clk) (ms : Nat) (ks0 ks : List Ky) (g : Bool) (Q : Ky → Prop) : Prop := RchT c ms ks ∧ (if g = true then unfT (univT c ms) ks < unfT (univT c ms) ks0 else ks = ks0 ∧ ∀ k, Q k → k ∈ ks0 ∨ deedK c ks0 k = false)
theorem GrI.imp {c : Clk} {ms : Nat} {ks0 ks : List Ky} {g : Bool} {Q Q' : Ky → Prop} (h : GrI c ms ks0 ks g Q) (w : ∀ k, Q' k → Q k) : GrI c ms ks0 ks g Q' := by
  refine ⟨h.1, ?_⟩
  have h2 := h.2
  cases g with
  | true => exact h2
  | false => exact ⟨h2.1, fun k hk => h2.2 k (w k hk)⟩
theorem GrI.le {c : Clk} {ms : Nat} {ks0 ks : List Ky} {g : Bool} {Q : Ky → Prop} (h : GrI c ms ks0 ks g Q) : unfT (univT c ms) ks ≤ unfT (univT c ms) ks0 := by
  have h2 := h.2
  cases g with
  | true => exact Nat.le_of_lt h2
  | false => rw [h2.1]; exact Nat.le_refl _
end LC
namespace LW
open PySem PySem.Spec L2 DL LC QL
section
variable {P : Program} {w0 : World} {K : PySem.W.Frag} {mg : Str → Option Value} {base : Heap} {f : Addr} {fd : FuncData}
abbrev sSu : Stmt := topS 67
abbrev nSu : List Str := ["_law_clock", "_law_misses", "_law_every", "_law_last", "_law_longer", "_law_one", "_law_found", "_law_grown", "_law_left", "_law_phase", "_law_edition"]
abbrev psSu : List Str := ["_law_clock", "_law_misses"]
theorem scSu : FnScope nSu psSu (defScope sSu) := ⟨rfl, rfl, rfl, by decide +kernel, rfl, by decide +kernel, by decide +kernel⟩
theorem je_kt {X : Cx} {K : PySem.W.Frag} {Γ : En} {es : List Expr} {n : Nat} {pos : Pos} {p l : Nat} {st : List Nat} (ha : PA X es (tA K Γ [.d (eN p), .d (eT st), .d (eN l)])) : PE X (.Tuple es n pos) (tR K Γ (.d (kT.e (p, st, l)))) := je_tup (ds := [eN p, eT st, eN l]) ha
def pmSu (P : Program) (w0 : World) (K : PySem.W.Frag) : Pm := ⟨Clk × Nat, fun (c, ms) => [.d (eC c), .d (eN ms)], fun (c, ms) => Good c ∧ ms ≤ 2, fun (c, ms) r => ∃ ks, FoundOk c ms ks ∧ r = .o (nC kT P w0 K ks)⟩
theorem ok_su (B : Blt mg) (GH : Df P w0 K mg base 3 "_law_has_deed" psHD (pmHD P w0 K)) (F : Fun K "_law_sure" "_law_sure" sSu f fd) : FnOk P w0 K mg base CX0 4 f fd psSu (spP K (pmSu P w0 K)) := by
  refine fn_ok F scSu (fun _ => rfl) (fun _ _ => by simp [pmSu]) (by decide) fun cdv A outer s H E ⟨c, ms⟩ hr ⟨hg, hms⟩ => ?_
  have hms : ms ≤ 2 := hms
  show PSs _ _ (tS K [.d (eC c), .d (eN ms), .u, .u, .u, .u, .u, .u, .u, .u, .u] _)
  have hu9 : (A.deeper (PyProof.Rows.envOfC "_law_sure" (defScope sSu) s.heap.objs.size f cdv)).units + 9 < cLine := by have := hr.un; omega
  have h3 := hg.n3
  have h4 := hg.per4
  refine js_cons (js_setF 2 (P := (· = cl K ((stds []).map eT))) scSu.nd (je_lst (ds := [eT []]) (ja_cons (je_tup (ds := []) ja_nil) ja_nil)) fun cc hc => ?_)
  subst hc
  refine js_freeze 2 rfl ?_
  have sz : ∀ i, i ≤ c.eds.length → (stds (c.eds.take i)).length ≤ 27 := fun i hi => by
    have := stds_size hg.ed i hi
    have h5 : 3 ^ i ≤ 3 ^ 3 := Nat.pow_le_pow_right (by decide) (by omega)
    omega
  refine js_cons (js_for (ds := nums (nn c.eds)) (fun i Γ => ∃ x3 x4 x5 : Sl, Γ = [.d (eC c), .d (eN ms), .p (plt K ((stds (c.eds.take i)).map eT)), x3, x4, x5, .u, .u, .u, .u, .u]) PassesOwn.never rfl (ji_tup (je_ix (jv 0) je_int)) (pg_name scSu.nd rfl (Or.inl rfl)) (tg_name 3) ⟨.u, .u, .u, rfl⟩ (fun i dd Γ' hd hI => ?_) fun Γ' hI => ?_)
  · obtain ⟨x3, x4, x5, rfl⟩ := hI
    rw [nums_nn, List.getElem?_map] at hd
    obtain ⟨l, ho, rfl⟩ := Option.map_eq_some_iff.mp hd
    have hi := (List.getElem?_eq_some_iff.mp ho).1
    have hl2 := hg.ed l (List.mem_of_getElem? ho)
    have hsz := sz i (by omega)
    refine ⟨[.d (eC c), .d (eN ms), .p (plt K ((stds (c.eds.take i)).map eT)), .d (eN l), x4, x5, .u, .u, .u, .u, .u], rfl, ?_⟩
    refine js_cons (js_setF 4 (P := (· = cl K [])) scSu.nd (je_lst (ds := []) ja_nil) fun cc hc => ?_)
    subst hc
    refine js_cons (js_for (ds := (stds (c.eds.take i)).map eT) (fun j Γ => ∃ x5 : Sl, Γ = [.d (eC c), .d (eN ms), .p (plt K ((stds (c.eds.take i)).map eT)), .d (eN l), .o (cl K ((((stds (c.eds.take i)).take j).flatMap fun s => (List.range (l + 1)).map fun e => s ++ [e]).map eT)), x5, .u, .u, .u, .u, .u]) PassesOwn.never rfl (ji_list (je_pl (jvp 2))) (pg_name scSu.nd rfl (Or.inr rfl)) (tg_name 5) ⟨x5, rfl⟩ (fun j de Γ' hde hJ => ?_) fun Γ' hJ => ?_)
    · obtain ⟨x5, rfl⟩ := hJ
      rw [List.getElem?_map] at hde
      obtain ⟨y, hy, rfl⟩ := Option.map_eq_some_iff.mp hde
      have hylen := stds_mem_len c.eds i (by omega) y (List.mem_of_getElem? hy)
      have hfl : (((stds (c.eds.take i)).take j).flatMap fun s => (List.range (l + 1)).map fun e => s ++ [e]).length ≤ 27 * 3 := by
        refine Nat.le_trans (flat_len 3 _ _ fun x _ => ?_) (Nat.mul_le_mul_right 3 ?_)
        · rw [List.length_map, List.length_range]
          omega
        · rw [List.length_take]
          omega
      refine ⟨[.d (eC c), .d (eN ms), .p (plt K ((stds (c.eds.take i)).map eT)), .d (eN l), .o (cl K ((((stds (c.eds.take i)).take j).flatMap fun s => (List.range (l + 1)).map fun e => s ++ [e]).map eT)), .d (eT y), .u, .u, .u, .u, .u], rfl, js_freeze 4 rfl (js_one (js_setF 4 (P := (· = cl K ((((stds (c.eds.take i)).take j).flatMap fun s => (List.range (l + 1)).map fun e => s ++ [e]).map eT ++ ((List.range (l + 1)).filter fun _ => true).map fun e => eT (y ++ [e])))) scSu.nd (je_catT (jvp 4) (je_ft (je_lc (xs := List.range (l + 1)) (enc := eN) (f := fun e => eT (y ++ [e])) (pb := fun _ => true) (Γe := fun e => [.d (eC c), .d (eN ms), .p (plt K ((stds (c.eds.take i)).map eT)), .d (eN l), .p (plt K ((((stds (c.eds.take i)).take j).flatMap fun s => (List.range (l + 1)).map fun e => s ++ [e]).map eT)), .d (eT y), .u, .u, .u, .u, .d (eN e)]) [("_law_edition", 10)] rfl scSu.nd
        (ji_is (ji_range1 B.range (je_add (jv 3) je_int) (by omega)) (rng_nn (l + 1))) (blkOk_by (N := nSu) (sc := defScope sSu) (by decide +kernel)) (tg_name 10) (by decide) rfl (fun x _ => rfl) (by rw [List.length_range]; omega) (fun _ _ _ _ _ => pg_name scSu.nd rfl (Or.inl rfl)) (fun _ _ _ _ _ _ _ => jts_nil) (fun e he _ s H C cl fp => je_is (je_cat (jv 5) (je_tup (ds := nums (nn [e])) (ja_cons (jv 10) ja_nil) (by rw [nn_len]; simp)) ?_) (eT_app y [e])))) ?_) (fun cc hc => ?_) (hl := Nat.le_of_ble_eq_true rfl)))⟩
      · rw [nn_len, nn_len]
        simp only [List.length_cons, List.length_nil]
        omega
      · rw [List.length_map, List.length_map]
        have h2 := List.length_filter_le (fun _ => true) (List.range (l + 1))
        rw [List.length_range] at h2
        omega
      · subst hc
        refine ⟨.d (eT y), ?_⟩
        rw [List.take_add_one, hy, List.flatMap_append, List.map_append, List.filter_eq_self.mpr (fun _ _ => rfl)]
        show [_, _, _, _, _, _, _, _, _, _, _] = [_, _, _, _, _, _, _, _, _, _, _]
        congr 6
        simp [Function.comp_def]
    · obtain ⟨x5, rfl⟩ := hJ
      rw [List.length_map, List.take_length, ← stds_take ho]
      exact js_freeze 4 rfl (js_one (js_setp 2 scSu.nd (jvp 4) ⟨.d (eN l), _, x5, rfl⟩))
  obtain ⟨x3, x4, x5, rfl⟩ := hI
  rw [nn_len, List.take_length]
  refine js_cons (js_par 6 7 (P1 := fun s => s = .o (nC kT P w0 K [])) (P2 := fun s => s = .d (.b true)) rfl scSu.nd ?hp1 ?hp2 fun s1 s2 h1 h2 => ?_)
  case hp1 =>
    exact pe_imp (ju_f (je_nnew (E := kT))) fun σ H Q ⟨Z, k, q⟩ => ⟨Z, k, fun s v H' hp n r => q s v H' (by
      cases hp with
      | mk cc hc => rw [hc]; rfl) n r⟩
  case hp2 =>
    exact pe_imp (ju_d je_bl) fun σ H Q ⟨Z, k, q⟩ => ⟨Z, k, fun s v H' hp n r => q s v H' (by
      cases hp with
      | mk d hd => rw [hd]) n r⟩
  subst h1 h2
  have hst : (stds c.eds).length ≤ 27 := by have := sz c.eds.length (Nat.le_refl _); rwa [List.take_length] at this
  have hul := univT_len hg hms
  refine js_cons (js_while (fun m Γ' => ∃ (ks : List Ky) (g : Bool) (y5 y8 y9 : Sl), RchT c ms ks ∧ m = (if g = true then unfT (univT c ms) ks + 1 else 0) ∧ (g = false → FoundOk c ms ks) ∧ Γ' = [.d (eC c), .d (eN ms), .p (plt K ((stds c.eds).map eT)), x3, x4, y5, .o (nC kT P w0 K ks), .d (.b g), y8, y9, .u]) PassesOwn.never _ ⟨[], true, x5, .u, .u, .start, rfl, (fun z => nomatch z), rfl⟩ ?_)
  rintro m Γ' ⟨ks0, g0, y5, y8, y9, hR0, rfl, hL0, rfl⟩
  refine ⟨g0, jt_val (jv 7), fun hg0 => ?_, fun hg0 => ?_⟩
  · subst hg0
    refine js_cons (js_set 7 (d := .b false) scSu.nd je_bl ?_)
    refine js_one (js_for (ds := nums (rng 0 ((ms + 1 : Nat) : Int))) (fun i Γ => ∃ (ks : List Ky) (g : Bool) (y5 y8 y9 : Sl), GrI c ms ks0 ks g (fun k => k ∈ univT c ms ∧ k.2.2 < i) ∧ Γ = [.d (eC c), .d (eN ms), .p (plt K ((stds c.eds).map eT)), x3, x4, y5, .o (nC kT P w0 K ks), .d (.b g), y8, y9, .u]) PassesOwn.never rfl (ji_is (ji_range1 (hi := (ms : Int) + 1) B.range (je_add (jv 1) je_int) (by omega)) rfl) (pg_name scSu.nd rfl (Or.inl rfl)) (tg_name 8) ⟨ks0, false, y5, y8, y9, ⟨hR0, rfl, fun k h => absurd h.2 (Nat.not_lt_zero _)⟩, rfl⟩ (fun i dd Γ' hd hI => ?_) fun Γ' hI => ?_)
    · obtain ⟨ks, g, y5, y8, y9, hG, rfl⟩ := hI
      rw [rng_nn, List.getElem?_map] at hd
      obtain ⟨l, hl, rfl⟩ := Option.map_eq_some_iff.mp hd
      obtain ⟨hl0, hl⟩ := List.getElem?_eq_some_iff.mp hl
      rw [List.getElem_range] at hl
      subst hl
      rw [List.length_range] at hl0
      refine ⟨[.d (eC c), .d (eN ms), .p (plt K ((stds c.eds).map eT)), x3, x4, y5, .o (nC kT P w0 K ks), .d (.b g), .d (eN i), y9, .u], rfl, ?_⟩
      refine js_one (js_for (ds := nums (rng 0 ((c.per : Nat) : Int))) (fun j Γ => ∃ (ks : List Ky) (g : Bool) (y5 y9 : Sl), GrI c ms ks0 ks g (fun k => k ∈ univT c ms ∧ (k.2.2 < i ∨ k.2.2 = i ∧ k.1 < j)) ∧ Γ = [.d (eC c), .d (eN ms), .p (plt K ((stds c.eds).map eT)), x3, x4, y5, .o (nC kT P w0 K ks), .d (.b g), .d (eN i), y9, .u]) PassesOwn.never rfl (ji_range1 B.range (je_ix (jv 0) je_int) (by omega)) (pg_name scSu.nd rfl (Or.inl rfl)) (tg_name 9) ⟨ks, g, y5, y9, hG.imp fun k h => ⟨h.1, by have := h.2; omega⟩, rfl⟩ (fun j de Γ' hde hJ => ?_) fun Γ' hJ => ?_)
      · obtain ⟨ks, g, y5, y9, hG, rfl⟩ := hJ
        rw [rng_nn, List.getElem?_map] at hde
        obtain ⟨q, hq, rfl⟩ := Option.map_eq_some_iff.mp hde
        obtain ⟨hq0, hq⟩ := List.getElem?_eq_some_iff.mp hq
        rw [List.getElem_range] at hq
        subst hq
        rw [List.length_range] at hq0
        refine ⟨[.d (eC c), .d (eN ms), .p (plt K ((stds c.eds).map eT)), x3, x4, y5, .o (nC kT P w0 K ks), .d (.b g), .d (eN i), .d (eN j), .u], rfl, ?_⟩
        refine js_one (js_for (ds := (stds c.eds).map eT) (fun n Γ => ∃ (ks : List Ky) (g : Bool) (y5 : Sl), GrI c ms ks0 ks g (fun k => k ∈ univT c ms ∧ (k.2.2 < i ∨ k.2.2 = i ∧ (k.1 < j ∨ k.1 = j ∧ k.2.1 ∈ (stds c.eds).take n))) ∧ Γ = [.d (eC c), .d (eN ms), .p (plt K ((stds c.eds).map eT)), x3, x4, y5, .o (nC kT P w0 K ks), .d (.b g), .d (eN i), .d (eN j), .u]) PassesOwn.never rfl (ji_list (je_pl (jvp 2))) (pg_name scSu.nd rfl (Or.inr rfl)) (tg_name 5) ⟨ks, g, y5, hG.imp fun k h => ⟨h.1, by
          rcases h.2 with z | ⟨z, z2 | ⟨_, z2⟩⟩
          · exact .inl z
          · exact .inr ⟨z, z2⟩
          · cases z2⟩, rfl⟩ (fun n df Γ' hdf hN => ?_) fun Γ' hN => ?_)
        · obtain ⟨ks, g, y5, hG, rfl⟩ := hN
          rw [List.getElem?_map] at hdf
          obtain ⟨y, hy, rfl⟩ := Option.map_eq_some_iff.mp hdf
          have hym := List.mem_of_getElem? hy
          have hyS : Std c y := ⟨((mem_stds _ _).mp hym).1, ((mem_stds _ _).mp hym).2⟩
          have hxU : ((j, y, i) : Ky) ∈ univT c ms := mem_univT.mpr ⟨by show i ≤ ms; omega, hq0, hym⟩
          have hkl := rchT_len hG.1
          refine ⟨[.d (eC c), .d (eN ms), .p (plt K ((stds c.eds).map eT)), x3, x4, .d (eT y), .o (nC kT P w0 K ks), .d (.b g), .d (eN i), .d (eN j), .u], rfl, ?_⟩
          refine js_one (js_if (jt_lend 6 lend_n (PW.pt (jw_and (jt_nni (E := kT) (k := (j, y, i)) hu9 (je_kt (ja_cons (jv 9) (ja_cons (jv 5) (ja_cons (jv 8) ja_nil)))) (jvp 6)) fun _ => jw_and1 (jt_val (jc GH (c, j, y, i, ks) hr (by decide) (ja_cons (jv 0) (ja_cons (jv 9) (ja_cons (jv 5) (ja_cons (jv 8) (ja_cons (jvp 6) ja_nil))))) ⟨hg, hyS, hq0⟩ fun r h => h))))) (fun z => ?_) fun z => js_nil ?_)
          · rw [Bool.and_eq_true, Bool.not_eq_true', decide_eq_false_iff_not] at z
            refine js_cons (js_nput (E := kT) (k := (j, y, i)) 6 hu9 rfl (je_bl (x := true)) (je_kt (ja_cons (jv 9) (ja_cons (jv 5) (ja_cons (jv 8) ja_nil)))) (by omega) ?_)
            refine js_one (js_set 7 (d := .b true) scSu.nd je_bl ?_)
            have hlt := unfT_put hxU z.1
            have hle := hG.le
            refine ⟨putN ks (j, y, i), true, .d (eT y), ⟨?_, ?_⟩, rfl⟩
            · unfold putN
              rw [if_neg z.1]
              exact .put hG.1 hxU z.1 z.2
            · unfold putN
              rw [if_neg z.1, if_pos rfl]
              omega
          · refine ⟨ks, g, .d (eT y), ⟨hG.1, ?_⟩, rfl⟩
            have hG2 := hG.2
            cases g with
            | true => exact hG2
            | false =>
              rw [if_neg Bool.false_ne_true] at hG2 ⊢
              obtain ⟨rfl, hG2⟩ := hG2
              refine ⟨rfl, fun k hk => ?_⟩
              by_cases e : k = (j, y, i)
              · subst e
                by_cases q : ((j, y, i) : Ky) ∈ ks
                · exact .inl q
                · refine .inr ?_
                  have z2 : ¬ (((j, y, i) : Ky) ∉ ks ∧ hasDeed c j y i ks = true) := fun w => by
                    simp [w.1, w.2] at z
                  cases e9 : hasDeed c j y i ks with
                  | false => exact e9
                  | true => exact absurd ⟨q, e9⟩ z2
              · refine hG2 k ⟨hk.1, ?_⟩
                rcases hk.2 with h | ⟨h, h2 | ⟨h2, h3⟩⟩
                · exact .inl h
                · exact .inr ⟨h, .inl h2⟩
                · rw [List.take_add_one, hy] at h3
                  rcases List.mem_append.mp h3 with h4 | h4
                  · exact .inr ⟨h, .inr ⟨h2, h4⟩⟩
                  · have h5 : k.2.1 = y := by simpa using h4
                    exact absurd (Prod.ext h2 (Prod.ext h5 h)) e
        · obtain ⟨ks, g, y5, hG, rfl⟩ := hN
          refine ⟨ks, g, y5, .d (eN j), hG.imp fun k hk => ⟨hk.1, ?_⟩, rfl⟩
          have h1 := (mem_univT.mp hk.1).2.2
          rcases hk.2 with h | ⟨h, h2⟩
          · exact .inl h
          · refine .inr ⟨h, ?_⟩
            rcases Nat.lt_or_ge k.1 j with h3 | h3
            · exact .inl h3
            · exact .inr ⟨by omega, by rw [List.length_map, List.take_length]; exact h1⟩
      · obtain ⟨ks, g, y5, y9, hG, rfl⟩ := hJ
        refine ⟨ks, g, y5, .d (eN i), y9, hG.imp fun k hk => ⟨hk.1, ?_⟩, rfl⟩
        have h1 := (mem_univT.mp hk.1).2.1
        rw [rng_len0]
        have := hk.2
        omega
    · obtain ⟨ks, g, y5, y8, y9, hG, rfl⟩ := hI
      rw [rng_len0] at hG
      refine ⟨_, ?_, ks, g, y5, y8, y9, hG.1, rfl, fun e => ?_, rfl⟩
      · rw [if_pos rfl]
        have hG2 := hG.2
        cases g with
        | true =>
          rw [if_pos rfl] at hG2 ⊢
          omega
        | false =>
          rw [if_neg Bool.false_ne_true]
          omega
      · subst e
        have hG2 := hG.2
        rw [if_neg Bool.false_ne_true] at hG2
        obtain ⟨rfl, hG2⟩ := hG2
        exact ⟨hG.1, fun k hk => hG2 k ⟨hk, by have := (mem_univT.mp hk).1; omega⟩⟩
  · exact js_one (js_retO 6 rfl ⟨ks0, hL0 hg0, rfl⟩)
end
end LW
end

section
set_option Elab.async false
set_option linter.all false
set_option maxRecDepth 100000
set_option maxHeartbeats 4000000
/-! N1: what the law's own search finds is what can surely be ended. -/
namespace LC
open DL LW
theorem sorted_ext : ∀ {a b : List Nat}, a.Pairwise (· < ·) → b.Pairwise (· < ·) → (∀ x, x ∈ a ↔ x ∈ b) → a = b
  | [], [], _, _, _ => rfl
  | [], y :: b, _, _, h => absurd ((h y).mpr List.mem_cons_self) List.not_mem_nil
  | x :: a, [], _, _, h => absurd ((h x).mp List.mem_cons_self) List.not_mem_nil
  | x :: a, y :: b, ha, hb, h => by
    obtain ⟨ha1, ha2⟩ := List.pairwise_cons.mp ha
    obtain ⟨hb1, hb2⟩ := List.pairwise_cons.mp hb
    have e : x = y := by
      rcases List.mem_cons.mp ((h x).mp List.mem_cons_self) with q | q
      · exact q
      · rcases List.mem_cons.mp ((h y).mpr List.mem_cons_self) with q2 | q2
        · exact q2.symm
        · have := hb1 x q
          have := ha1 y q2
          omega
    subst e
    rw [sorted_ext ha2 hb2 fun z => ?_]
    constructor
    · intro hz
      rcases List.mem_cons.mp ((h z).mp (List.mem_cons_of_mem _ hz)) with q | q
      · have := ha1 z hz
        omega
      · exact q
    · intro hz
      rcases List.mem_cons.mp ((h z).mpr (List.mem_cons_of_mem _ hz)) with q | q
      · have := hb1 z hz
        omega
      · exact q
theorem subs_snoc (ws : List Nat) (w : Nat) : subs (ws ++ [w]) = subs ws ++ (subs ws).map fun o => o ++ [w] := by
  unfold subs
  rw [List.foldl_append]
  rfl
theorem snoc_ind {P : List Nat → Prop} (h0 : P []) (h1 : ∀ l x, P l → P (l ++ [x])) : ∀ l, P l := by
  intro l
  have key : ∀ n, ∀ l : List Nat, l.length = n → P l := by
    intro n
    induction n with
    | zero =>
      intro l hl
      rw [List.length_eq_zero_iff.mp hl]
      exact h0
    | succ n ih =>
      intro l hl
      rcases List.eq_nil_or_concat l with q | ⟨m, x, q⟩
      · rw [q] at hl
        cases hl
      · rw [List.concat_eq_append] at q
        subst q
        exact h1 m x (ih m (by simpa using hl))
  exact key _ l rfl
theorem mem_subs : ∀ {ws : List Nat}, ws.Pairwise (· < ·) → ∀ d, d ∈ subs ws ↔ d.Pairwise (· < ·) ∧ ∀ x ∈ d, x ∈ ws := by
  intro ws
  refine snoc_ind (P := fun ws => ws.Pairwise (· < ·) → ∀ d, d ∈ subs ws ↔ d.Pairwise (· < ·) ∧ ∀ x ∈ d, x ∈ ws) ?_ ?_ ws
  · intro _ d
    constructor
    · intro h
      rw [List.mem_singleton.mp (show d ∈ [[]] from h)]
      exact ⟨List.Pairwise.nil, fun _ h => nomatch h⟩
    · rintro ⟨_, h⟩
      have : d = [] := List.eq_nil_iff_forall_not_mem.mpr fun x hx => nomatch h x hx
      rw [this]
      exact List.mem_singleton.mpr rfl
  · intro ws w ih hw d
    obtain ⟨hw1, _, hw2⟩ := List.pairwise_append.mp hw
    have ih := ih hw1
    have hlt : ∀ x ∈ ws, x < w := fun x hx => hw2 x hx w (List.mem_singleton.mpr rfl)
    rw [subs_snoc, List.mem_append]
    constructor
    · rintro (h | h)
      · obtain ⟨h1, h2⟩ := (ih d).mp h
        exact ⟨h1, fun x hx => List.mem_append_left _ (h2 x hx)⟩
      · obtain ⟨o, ho, rfl⟩ := List.mem_map.mp h
        obtain ⟨h1, h2⟩ := (ih o).mp ho
        refine ⟨List.pairwise_append.mpr ⟨h1, List.pairwise_singleton _ _, fun x hx y hy => ?_⟩, fun x hx => ?_⟩
        · rw [List.mem_singleton.mp hy]
          exact hlt x (h2 x hx)
        · rcases List.mem_append.mp hx with q | q
          · exact List.mem_append_left _ (h2 x q)
          · exact List.mem_append_right _ q
    · rintro ⟨h1, h2⟩
      rcases List.eq_nil_or_concat d with q | ⟨o, x, q⟩
      · subst q
        exact .inl ((ih []).mpr ⟨List.Pairwise.nil, fun _ h => nomatch h⟩)
      · rw [List.concat_eq_append] at q
        subst q
        obtain ⟨g1, _, g2⟩ := List.pairwise_append.mp h1
        have gx : ∀ y ∈ o, y < x := fun y hy => g2 y hy x (List.mem_singleton.mpr rfl)
        have hxm := h2 x (List.mem_append_right _ (List.mem_singleton.mpr rfl))
        have hxw : x ≤ w := by
          rcases List.mem_append.mp hxm with q | q
          · exact Nat.le_of_lt (hlt x q)
          · rw [List.mem_singleton.mp q]
            exact Nat.le_refl _
        have hos : ∀ y ∈ o, y ∈ ws := fun y hy => by
          rcases List.mem_append.mp (h2 y (List.mem_append_left _ hy)) with q | q
          · exact q
          · have := gx y hy
            rw [List.mem_singleton.mp q] at this
            omega
        by_cases e : x = w
        · subst e
          exact .inr (List.mem_map.mpr ⟨o, (ih o).mpr ⟨g1, hos⟩, rfl⟩)
        · refine .inl ((ih _).mpr ⟨h1, fun y hy => ?_⟩)
          rcases List.mem_append.mp hy with q | q
          · exact hos y q
          · rw [List.mem_singleton.mp q]
            rcases List.mem_append.mp hxm with q2 | q2
            · exact q2
            · exact absurd (List.mem_singleton.mp q2) e
theorem lastD_snoc (o : List Nat) (x : Nat) : lastD (o ++ [x]) = x := by
  unfold lastD
  simp
theorem mem_lay {ws : List Nat} : ∀ i d, d ∈ lay ws i ↔ d.length = i ∧ d.Pairwise (· < ·) ∧ ∀ x ∈ d, x ∈ ws := by
  intro i
  induction i with
  | zero =>
    intro d
    constructor
    · intro h
      rw [List.mem_singleton.mp (show d ∈ [[]] from h)]
      exact ⟨rfl, List.Pairwise.nil, fun _ h => nomatch h⟩
    · rintro ⟨h, _⟩
      rw [List.length_eq_zero_iff.mp h]
      exact List.mem_singleton.mpr rfl
  | succ i ih =>
    intro d
    show d ∈ ext1 ws (lay ws i) ↔ _
    unfold ext1
    rw [List.mem_flatMap]
    constructor
    · rintro ⟨o, ho, h⟩
      obtain ⟨w, hw, rfl⟩ := List.mem_map.mp h
      obtain ⟨h1, h2, h3⟩ := (ih o).mp ho
      obtain ⟨hw1, hw2⟩ := List.mem_filter.mp hw
      refine ⟨by rw [List.length_append, h1]; rfl, List.pairwise_append.mpr ⟨h2, List.pairwise_singleton _ _, fun x hx y hy => ?_⟩, fun x hx => ?_⟩
      · rw [List.mem_singleton.mp hy]
        rcases List.eq_nil_or_concat o with q | ⟨o2, z, q⟩
        · rw [q] at hx
          cases hx
        · rw [List.concat_eq_append] at q
          subst q
          rw [lastD_snoc, Bool.or_eq_true, decide_eq_true_iff, decide_eq_true_iff] at hw2
          have hz : z < w := hw2.resolve_left (by simp)
          rcases List.mem_append.mp hx with q | q
          · have := (List.pairwise_append.mp h2).2.2 x q z (List.mem_singleton.mpr rfl)
            omega
          · rw [List.mem_singleton.mp q]
            exact hz
      · rcases List.mem_append.mp hx with q | q
        · exact h3 x q
        · rw [List.mem_singleton.mp q]
          exact hw1
    · rintro ⟨h1, h2, h3⟩
      rcases List.eq_nil_or_concat d with q | ⟨o, x, q⟩
      · rw [q] at h1
        cases h1
      · rw [List.concat_eq_append] at q
        subst q
        obtain ⟨g1, _, g2⟩ := List.pairwise_append.mp h2
        refine ⟨o, (ih o).mpr ⟨by simpa using h1, g1, fun y hy => h3 y (List.mem_append_left _ hy)⟩, List.mem_map.mpr ⟨x, List.mem_filter.mpr ⟨h3 x (List.mem_append_right _ (List.mem_singleton.mpr rfl)), ?_⟩, rfl⟩⟩
        rcases List.eq_nil_or_concat o with q | ⟨o2, z, q⟩
        · rw [q]
          rfl
        · rw [List.concat_eq_append] at q
          subst q
          rw [lastD_snoc, Bool.or_eq_true, decide_eq_true_iff, decide_eq_true_iff]
          exact .inr (g2 z (List.mem_append_right _ (List.mem_singleton.mpr rfl)) x (List.mem_singleton.mpr rfl))
theorem mem_lays {ws : List Nat} : ∀ n d, d ∈ lays ws n ↔ d.length ≤ n ∧ d.Pairwise (· < ·) ∧ ∀ x ∈ d, x ∈ ws := by
  intro n
  induction n with
  | zero =>
    intro d
    have := mem_lay (ws := ws) 0 d
    rw [show lays ws 0 = lay ws 0 from rfl, this]
    constructor
    · rintro ⟨h, h2⟩
      exact ⟨by omega, h2⟩
    · rintro ⟨h, h2⟩
      exact ⟨by omega, h2⟩
  | succ n ih =>
    intro d
    rw [show lays ws (n + 1) = lays ws n ++ lay ws (n + 1) from rfl, List.mem_append, ih d, mem_lay]
    constructor
    · rintro (⟨h, h2⟩ | ⟨h, h2⟩)
      · exact ⟨by omega, h2⟩
      · exact ⟨by omega, h2⟩
    · rintro ⟨h, h2⟩
      by_cases q : d.length ≤ n
      · exact .inl ⟨q, h2⟩
      · exact .inr ⟨by omega, h2⟩
theorem open_sorted (c : Clk) (p : Nat) (s : List Nat) : (openW c p s).Pairwise (· < ·) := by
  rw [openW_eq]
  exact List.pairwise_lt_range.sublist List.filter_sublist
theorem mem_open {c : Clk} {p : Nat} {s : List Nat} {w : Nat} : w ∈ openW c p s ↔ w < c.eds.length ∧ at_ s w < at_ c.eds w ∧ p ∈ gapsOf c w := by
  rw [openW_eq, List.mem_filter, List.mem_range, Bool.and_eq_true, decide_eq_true_iff, decide_eq_true_iff]
theorem mem_deeds {c : Clk} (hg : Good c) {p : Nat} {s d : List Nat} : d ∈ deedsAt c p s ↔ d.Pairwise (· < ·) ∧ ∀ x ∈ d, x ∈ openW c p s := by
  have hl : (openW c p s).length ≤ 12 := by
    rw [openW_eq]
    refine Nat.le_trans (List.length_filter_le _ _) ?_
    rw [List.length_range]
    have := hg.n3
    omega
  unfold deedsAt
  rw [mem_lays, Nat.min_eq_right hl]
  constructor
  · exact fun h => h.2
  · exact fun h => ⟨sub_mem_len d ((mem_subs (open_sorted c p s) d).mpr h), h⟩
/-- what is left of a deed -/
def less (d m : List Nat) : List Nat := d.filter fun w => !decide (w ∈ m)
theorem mem_less {d m : List Nat} {x : Nat} : x ∈ less d m ↔ x ∈ d ∧ x ∉ m := by
  unfold less
  rw [List.mem_filter, Bool.not_eq_true', decide_eq_false_iff_not]
theorem less_sorted {d m : List Nat} (h : d.Pairwise (· < ·)) : (less d m).Pairwise (· < ·) := h.sublist List.filter_sublist
theorem less_len {d m : List Nat} (hd : d.Pairwise (· < ·)) (hm : m.Pairwise (· < ·)) (h : ∀ x ∈ m, x ∈ d) : (less d m).length + m.length = d.length := by
  have e : m = d.filter fun w => decide (w ∈ m) := sorted_ext hm (hd.sublist List.filter_sublist) fun x => by
    rw [List.mem_filter, decide_eq_true_iff]
    exact ⟨fun q => ⟨h x q, q⟩, fun q => q.2⟩
  have h2 : (d.filter fun w => decide (w ∈ m)).length + (d.filter fun w => !decide (w ∈ m)).length = d.length := by
    have : ∀ (f : Nat → Bool) (l : List Nat), (l.filter f).length + (l.filter fun w => !f w).length = l.length := by
      intro f l
      induction l with
      | nil => rfl
      | cons x l ih =>
        cases q : f x
        · rw [List.filter_cons_of_neg (by simp [q]), List.filter_cons_of_pos (by simp [q]), List.length_cons, List.length_cons]
          omega
        · rw [List.filter_cons_of_pos (by simp [q]), List.filter_cons_of_neg (by simp [q]), List.length_cons, List.length_cons]
          omega
    exact this _ d
  rw [← e] at h2
  unfold less
  omega
theorem less_less {d e : List Nat} (hd : d.Pairwise (· < ·)) (he : e.Pairwise (· < ·)) (h : ∀ x ∈ e, x ∈ d) : less d (less d e) = e := sorted_ext (less_sorted hd) he fun x => by
  rw [mem_less, mem_less]
  constructor
  · rintro ⟨h1, h2⟩
    exact Classical.byContradiction fun q => h2 ⟨h1, q⟩
  · exact fun q => ⟨h x q, fun z => z.2 q⟩
theorem later_done {s dn : List Nat} (h : dn.Pairwise (· < ·)) : laterOf s dn = doneS s dn := by
  unfold laterOf doneS
  apply List.map_congr_left
  intro x _
  congr 1
  have hn : dn.Nodup := h.imp fun q => Nat.ne_of_lt q
  rw [hn.count]
theorem hasDeed_iff {c : Clk} (hg : Good c) {p l : Nat} {s : List Nat} {ks : List Ky} : hasDeed c p s l ks = true ↔ s = c.eds ∨ ∃ d ∈ deedsAt c p s, ∀ m ∈ subs d, m.length ≤ l → notFit c (doneM s d m) p = [] ∧ (((p + 1) % c.per, doneM s d m, l - m.length) : Ky) ∈ ks := by
  have hos := open_sorted c p s
  unfold hasDeed
  rw [Bool.or_eq_true, decide_eq_true_iff, List.any_eq_true]
  constructor
  · rintro (h | ⟨d, hd, h⟩)
    · exact .inl h
    · obtain ⟨d1, d2⟩ := (mem_subs hos d).mp hd
      refine .inr ⟨d, (mem_deeds hg).mpr ⟨d1, d2⟩, fun m hm hml => ?_⟩
      obtain ⟨m1, m2⟩ := (mem_subs d1 m).mp hm
      have hl := less_len d1 m1 m2
      have hs := less_sorted (m := m) d1
      have h1 := List.all_eq_true.mp h (less d m) ((mem_subs hos _).mpr ⟨hs, fun x hx => d2 x (mem_less.mp hx).1⟩)
      unfold okDone at h1
      have e1 : ((less d m).filter fun w => !decide (w ∈ d)) = [] := List.filter_eq_nil_iff.mpr fun x hx => by simp [(mem_less.mp hx).1]
      rw [e1, decide_eq_true (show d.length ≤ l + (less d m).length by omega), later_done hs, show l + (less d m).length - d.length = l - m.length by omega] at h1
      have h1 : ((notFit c (doneS s (less d m)) p).isEmpty && _) = true := h1
      rw [Bool.and_eq_true, decide_eq_true_iff, List.isEmpty_iff] at h1
      exact h1
  · rintro (h | ⟨d, hd, h⟩)
    · exact .inl h
    · obtain ⟨d1, d2⟩ := (mem_deeds hg).mp hd
      refine .inr ⟨d, (mem_subs hos d).mpr ⟨d1, d2⟩, List.all_eq_true.mpr fun e he => ?_⟩
      obtain ⟨e1, e2⟩ := (mem_subs hos e).mp he
      unfold okDone
      by_cases q : ((e.filter fun w => !decide (w ∈ d)).isEmpty && decide (d.length ≤ l + e.length)) = true
      · rw [Bool.and_eq_true, decide_eq_true_iff, List.isEmpty_iff, List.filter_eq_nil_iff] at q
        have hsub : ∀ x ∈ e, x ∈ d := fun x hx => Classical.byContradiction fun z => q.1 x hx (by simp [z])
        have hms := less_sorted (m := e) d1
        have hml := less_len d1 e1 hsub
        have hm := (mem_subs d1 (less d e)).mpr ⟨hms, fun x hx => (mem_less.mp hx).1⟩
        have h1 := h (less d e) hm (by omega)
        have e3 : doneM s d (less d e) = doneS s e := by
          show doneS s (less d (less d e)) = _
          rw [less_less d1 e1 hsub]
        rw [e3, show l - (less d e).length = l + e.length - d.length by omega] at h1
        rw [later_done e1]
        have h2 : ((notFit c (doneS s e) p).isEmpty && decide ((((p + 1) % c.per, doneS s e, l + e.length - d.length) : Ky) ∈ ks)) = true := by
          rw [Bool.and_eq_true, decide_eq_true_iff, List.isEmpty_iff]
          exact h1
        rw [Bool.or_eq_true]
        exact .inr h2
      · have q2 : ((e.filter fun w => !decide (w ∈ d)).isEmpty && decide (d.length ≤ l + e.length)) = false := by simpa using q
        rw [q2]
        rfl
theorem rchT_sound {c : Clk} (hg : Good c) {ms : Nat} {ks : List Ky} (h : RchT c ms ks) : ∀ k ∈ ks, Sure c k.2.2 k.1 k.2.1 := by
  induction h with
  | start => exact fun _ h => nomatch h
  | @put ks x h hx hn hd ih =>
    intro k hk
    rcases List.mem_append.mp hk with q | q
    · exact ih k q
    · rw [List.mem_singleton.mp q]
      have hp := (mem_univT.mp hx).2.1
      rcases (hasDeed_iff hg).mp hd with e | ⟨d, h1, h2⟩
      · rw [e]
        exact .done hp
      · exact .step hp h1 (fun m hm hl => (h2 m hm hl).1) fun m hm hl => ih _ (h2 m hm hl).2
theorem found_full {c : Clk} (hg : Good c) {ms : Nat} {ks : List Ky} (h : FoundOk c ms ks) : ∀ l p s, Sure c l p s → Std c s → l ≤ ms → ((p, s, l) : Ky) ∈ ks := by
  intro l p s hS
  have inU : ∀ {l p : Nat} {s : List Nat}, p < c.per → Std c s → l ≤ ms → ((p, s, l) : Ky) ∈ univT c ms := fun hp hs hl => mem_univT.mpr ⟨hl, hp, (mem_stds _ _).mpr ⟨hs.len, hs.le⟩⟩
  induction hS with
  | @done l p hp =>
    intro hs hl
    rcases h.2 _ (inU hp hs hl) with q | q
    · exact q
    · have : deedK c ks (p, c.eds, l) = true := (hasDeed_iff hg).mpr (.inl rfl)
      rw [this] at q
      cases q
  | @step l p s d hp hd h1 h2 ih =>
    intro hs hl
    rcases h.2 _ (inU hp hs hl) with q | q
    · exact q
    · have : deedK c ks (p, s, l) = true := (hasDeed_iff hg).mpr (.inr ⟨d, hd, fun m hm hml => ⟨h1 m hm hml, ih m hm hml (std_doneM hs hd) (by omega)⟩⟩)
      rw [this] at q
      cases q
theorem found_iff {c : Clk} (hg : Good c) {ms : Nat} {ks : List Ky} (h : FoundOk c ms ks) {l p : Nat} {s : List Nat} (hs : Std c s) (hl : l ≤ ms) : ((p, s, l) : Ky) ∈ ks ↔ Sure c l p s := ⟨fun q => rchT_sound hg h.1 _ q, fun q => found_full hg h l p s q hs hl⟩
end LC
end

section
set_option Elab.async false
set_option linter.all false
set_option maxRecDepth 100000
set_option maxHeartbeats 4000000
/-! N2: a table of ticks is there just where without misses can surely be ended. -/
namespace LC
open DL LW
theorem lmax_le {l : List Nat} {n : Nat} (h : ∀ x ∈ l, x ≤ n) : lmax l ≤ n := by
  rcases lmax_mem l with q | q
  · omega
  · exact h _ q
theorem needed_mem {c : Clk} {w e o : Nat} (h : 0 < needed c w e o) : ∃ x ∈ c.bk, x.1 = w ∧ x.2.2.1 = o ∧ x.2.1 ≤ e ∧ x.2.2.2 = needed c w e o := by
  rcases lmax_mem (((needs1 c w o).filter fun x => decide (x.2.1 ≤ e)).map fun x => x.2.2.2) with q | q
  · rw [show needed c w e o = _ from q] at h
    exact absurd h (Nat.lt_irrefl 0)
  · obtain ⟨x, hx, he⟩ := List.mem_map.mp q
    obtain ⟨hx1, hx2⟩ := List.mem_filter.mp hx
    obtain ⟨hx3, hx4⟩ := List.mem_filter.mp hx1
    rw [Bool.and_eq_true, decide_eq_true_iff, decide_eq_true_iff] at hx4
    exact ⟨x, hx3, hx4.1, hx4.2, of_decide_eq_true hx2, he⟩
theorem needed_mono {c : Clk} {w o e e' : Nat} (h : e ≤ e') : needed c w e o ≤ needed c w e' o := lmax_le fun x hx => by
  obtain ⟨y, hy, rfl⟩ := List.mem_map.mp hx
  obtain ⟨h1, h2⟩ := List.mem_filter.mp hy
  exact le_lmax (List.mem_map.mpr ⟨y, List.mem_filter.mpr ⟨h1, decide_eq_true (Nat.le_trans (of_decide_eq_true h2) h)⟩, rfl⟩)
theorem phs_comm (c : Clk) (i j : Nat) : phasesOf c i j = phasesOf c j i := by
  unfold phasesOf
  rw [Nat.min_comm, Nat.max_comm]
section
variable {c : Clk} (hg : Good c)
include hg
theorem needed_ok {w e o : Nat} (h : 0 < needed c w e o) : w < c.eds.length ∧ o < c.eds.length ∧ needed c w e o ≤ at_ c.eds o ∧ w ≠ o := by
  obtain ⟨x, hx, rfl, rfl, _, h4⟩ := needed_mem h
  have := hg.bv x hx
  rw [← h4]
  exact ⟨this.1, this.2.1, this.2.2.2.2.2.2, this.2.2.1⟩
theorem notFit_iff {s : List Nat} {p : Nat} : notFit c s p = [] ↔ ∀ i j, p ∈ phasesOf c i j → i ≠ j → needed c i (at_ s i) j ≤ at_ s j := by
  unfold notFit
  rw [List.filter_eq_nil_iff]
  constructor
  · intro h i j hp hij
    unfold phasesOf at hp
    obtain ⟨t, ht, hpe⟩ := List.mem_map.mp hp
    obtain ⟨ht1, ht2⟩ := List.mem_filter.mp ht
    rw [Bool.and_eq_true, decide_eq_true_iff, decide_eq_true_iff] at ht2
    have hf := h t.2 (List.mem_map.mpr ⟨t, List.mem_filter.mpr ⟨ht1, decide_eq_true hpe⟩, rfl⟩)
    have hf : fitB c s t.2 = true := by simpa using hf
    unfold fitB at hf
    rw [Bool.and_eq_true, decide_eq_true_iff, decide_eq_true_iff, ht2.1, ht2.2] at hf
    rcases Nat.le_total i j with q | q
    · rw [Nat.min_eq_left q, Nat.max_eq_right q] at hf
      exact hf.1
    · rw [Nat.min_eq_right q, Nat.max_eq_left q] at hf
      exact hf.2
  · intro h x hx
    obtain ⟨t, ht, rfl⟩ := List.mem_map.mp hx
    obtain ⟨ht1, ht2⟩ := List.mem_filter.mp ht
    have ht2 := of_decide_eq_true ht2
    have hv := hg.tv t ht1
    have hp : p ∈ phasesOf c t.2.1 t.2.2 := by
      unfold phasesOf
      refine List.mem_map.mpr ⟨t, List.mem_filter.mpr ⟨ht1, ?_⟩, ht2⟩
      rw [Nat.min_eq_left (by omega), Nat.max_eq_right (by omega), Bool.and_eq_true]
      exact ⟨decide_eq_true rfl, decide_eq_true rfl⟩
    have h1 := h _ _ hp (by omega)
    have h2 := h t.2.2 t.2.1 (by rw [phs_comm]; exact hp) (by omega)
    have : fitB c s t.2 = true := by
      unfold fitB
      rw [Bool.and_eq_true, decide_eq_true_iff, decide_eq_true_iff]
      exact ⟨h1, h2⟩
    simp [this]
theorem mem_needsOf {x y : Nat × Nat} : y ∈ needsOf c x ↔ (1 < x.2 ∧ y = (x.1, x.2 - 1)) ∨ ∃ o, o < c.eds.length ∧ o ≠ x.1 ∧ phasesOf c x.1 o ≠ [] ∧ 0 < needed c x.1 x.2 o ∧ y = (o, needed c x.1 x.2 o) := by
  unfold needsOf
  rw [(srt2_perm _).mem_iff]
  unfold needs0
  rw [List.mem_append]
  constructor
  · rintro (h | h)
    · split at h
      · rename_i q
        exact .inl ⟨q, List.mem_singleton.mp h⟩
      · cases h
    · obtain ⟨o, ho, rfl⟩ := List.mem_map.mp h
      obtain ⟨h1, h2⟩ := List.mem_filter.mp ho
      rw [Bool.and_eq_true, Bool.and_eq_true, decide_eq_true_iff, decide_eq_true_iff] at h2
      refine .inr ⟨o, List.mem_range.mp h1, h2.1, fun z => ?_, h2.2.2, rfl⟩
      have := h2.2.1
      rw [z] at this
      cases this
  · rintro (⟨h1, rfl⟩ | ⟨o, h1, h2, h3, h4, rfl⟩)
    · rw [if_pos h1]
      exact .inl (List.mem_singleton.mpr rfl)
    · refine .inr (List.mem_map.mpr ⟨o, List.mem_filter.mpr ⟨List.mem_range.mpr h1, ?_⟩, rfl⟩)
      rw [Bool.and_eq_true, Bool.and_eq_true, decide_eq_true_iff, decide_eq_true_iff]
      refine ⟨h2, ?_, h4⟩
      cases q : phasesOf c x.1 o with
      | nil => exact absurd q h3
      | cons _ _ => rfl
end
/-! ### due -/
def under (T : Int) (acc : List ((Nat × Nat) × Int)) (x : Nat × Nat) : Prop := ∀ l, getA acc x = some l → T ≤ l
theorem under_step {c : Clk} {t T : Int} {s : List Nat} {x y : Nat × Nat} {acc : List ((Nat × Nat) × Int)} {o : Nat} : under T (dueStep c t s y acc o) x ↔ under T acc x ∧ (y = x → dueOk c s x o = true → T ≤ nextT c x.1 o t) := by
  unfold dueStep
  by_cases h : dueOk c s y o = true
  · rw [if_pos h]
    unfold under
    by_cases e : y = x
    · subst e
      cases q : getA acc y with
      | none =>
        constructor
        · intro z
          refine ⟨(fun l hl => nomatch hl), fun _ _ => ?_⟩
          have := z (nextT c y.1 o t) (by rw [getA_put, if_pos rfl, Option.getD_none, if_neg (Int.lt_irrefl _)])
          exact this
        · rintro ⟨_, z⟩ l hl
          rw [getA_put, if_pos rfl, Option.getD_none, if_neg (Int.lt_irrefl _)] at hl
          cases hl
          exact z rfl h
      | some v =>
        constructor
        · intro z
          have h1 := z _ (by rw [getA_put, if_pos rfl, Option.getD_some])
          refine ⟨fun l hl => ?_, fun _ _ => ?_⟩
          · cases hl
            split at h1 <;> omega
          · split at h1 <;> omega
        · rintro ⟨z1, z2⟩ l hl
          rw [getA_put, if_pos rfl, Option.getD_some] at hl
          have h1 := z1 v rfl
          have h2 := z2 rfl h
          cases hl
          split <;> omega
    · constructor
      · intro z
        exact ⟨fun l hl => z l (by rw [getA_put, if_neg fun w => e w.symm]; exact hl), fun w => absurd w e⟩
      · rintro ⟨z, _⟩ l hl
        rw [getA_put, if_neg fun w => e w.symm] at hl
        exact z l hl
  · rw [if_neg h]
    exact ⟨fun z => ⟨z, fun e h2 => absurd (by rw [e]; exact h2) h⟩, fun z => z.1⟩
theorem under_fold {c : Clk} {t T : Int} {s : List Nat} {x y : Nat × Nat} : ∀ (os : List Nat) (acc : List ((Nat × Nat) × Int)), under T (os.foldl (dueStep c t s y) acc) x ↔ under T acc x ∧ (y = x → ∀ o ∈ os, dueOk c s x o = true → T ≤ nextT c x.1 o t)
  | [], acc => ⟨fun z => ⟨z, fun _ o ho => nomatch ho⟩, fun z => z.1⟩
  | o :: os, acc => by
    rw [List.foldl_cons, under_fold os, under_step]
    constructor
    · rintro ⟨⟨z1, z2⟩, z3⟩
      refine ⟨z1, fun e o' ho' => ?_⟩
      rcases List.mem_cons.mp ho' with q | q
      · rw [q]
        exact z2 e
      · exact z3 e o' q
    · rintro ⟨z1, z2⟩
      exact ⟨⟨z1, fun e => z2 e o List.mem_cons_self⟩, fun e o' ho' => z2 e o' (List.mem_cons_of_mem _ ho')⟩
theorem under_due {c : Clk} {t T : Int} {s : List Nat} {x : Nat × Nat} : under T (due c t s) x ↔ (x ∈ toDo c s → ∀ o, o < c.eds.length → dueOk c s x o = true → T ≤ nextT c x.1 o t) := by
  have key : ∀ (ys : List (Nat × Nat)) (acc : List ((Nat × Nat) × Int)), under T (ys.foldl (dueTurn c t s) acc) x ↔ under T acc x ∧ (x ∈ ys → ∀ o, o < c.eds.length → dueOk c s x o = true → T ≤ nextT c x.1 o t) := by
    intro ys
    induction ys with
    | nil => exact fun acc => ⟨fun z => ⟨z, fun h => nomatch h⟩, fun z => z.1⟩
    | cons y ys ih =>
      intro acc
      rw [List.foldl_cons, ih]
      unfold dueTurn
      rw [under_fold]
      constructor
      · rintro ⟨⟨z1, z2⟩, z3⟩
        refine ⟨z1, fun h o ho => ?_⟩
        rcases List.mem_cons.mp h with q | q
        · exact z2 q.symm o (List.mem_range.mpr ho)
        · exact z3 q o ho
      · rintro ⟨z1, z2⟩
        exact ⟨⟨z1, fun e o ho => z2 (by rw [e]; exact List.mem_cons_self) o (List.mem_range.mp ho)⟩, fun h => z2 (List.mem_cons_of_mem _ h)⟩
  unfold due
  rw [key]
  exact ⟨fun z => z.2, fun z => ⟨(fun l hl => nomatch hl), z⟩⟩
/-- a touch of i and j at tick q -/
def Tc (c : Clk) (i j : Nat) (q : Int) : Prop := ph c q ∈ phasesOf c i j
/-- a course's ticks, said by the touches -/
structure F2 (c : Clk) (t : Int) (s : List Nat) (τ : Nat × Nat → Int) : Prop where
  ge : ∀ x ∈ toDo c s, t ≤ τ x
  gap : ∀ x ∈ toDo c s, ph c (τ x) ∈ gapsOf c x.1
  ord : ∀ w e, (w, e) ∈ toDo c s → (w, e + 1) ∈ toDo c s → τ (w, e) < τ (w, e + 1)
  fit : ∀ w e o, (w, e) ∈ toDo c s → o ≠ w → (o, needed c w e o) ∈ toDo c s → ∀ q, Tc c w o q → τ (w, e) ≤ q → τ (o, needed c w e o) ≤ q
  due : ∀ w e o, (w, e) ∈ toDo c s → o ≠ w → e ≤ needed c o (at_ s o) w → ∀ q, t ≤ q → Tc c w o q → τ (w, e) ≤ q
section
variable {c : Clk} (hg : Good c)
include hg
theorem next_le {i j : Nat} {t q : Int} (h : t ≤ q) (hq : Tc c i j q) : nextT c i j t ≤ q := up_min _ _ _ _ h (decide_eq_true hq)
theorem next_ge (i j : Nat) (t : Int) : t ≤ nextT c i j t := up_ge _ _ _
theorem next_hit {i j : Nat} (h : phasesOf c i j ≠ []) (t : Int) : Tc c i j (nextT c i j t) := by
  obtain ⟨x, hx⟩ := List.exists_mem_of_ne_nil _ h
  obtain ⟨k, hk, e⟩ := ph_up hg.per0 t (phs_lt hg hx)
  have z := up_hit (fun t => decide (ph c t ∈ phasesOf c i j)) c.per t k hk (decide_eq_true (by rw [e]; exact hx))
  show ph c _ ∈ phasesOf c i j
  exact of_decide_eq_true z
theorem above_iff {i j : Nat} (h : phasesOf c i j ≠ []) {T U : Int} : aboveT c i j T ≤ U ↔ ∀ q, Tc c i j q → U ≤ q → T ≤ q := by
  constructor
  · intro z q hq hU
    apply Int.not_lt.mp
    intro w
    have := above_max hg (i := i) (j := j) (t := T) (u := q + 1) (by omega) (by rw [Int.add_sub_cancel]; exact hq)
    omega
  · intro z
    apply Int.not_lt.mp
    intro w
    have h1 := above_le hg i j T
    have := z (aboveT c i j T - 1) (above_hit hg h T) (by omega)
    omega
theorem gap_iff {w : Nat} (h : w < c.eds.length) {T U : Int} (hU : ph c U ∈ gapsOf c w) : gapFrom c w T ≤ U ↔ T ≤ U := ⟨fun z => Int.le_trans (gap_ge hg w T) z, fun z => gap_min hg z hU⟩
theorem feas_f2 {t : Int} {s : List Nat} {τ : Nat × Nat → Int} : Feas c t s τ ↔ F2 c t s τ := by
  constructor
  · intro h
    refine ⟨h.ge, h.gap, fun w e h1 h2 => ?_, fun w e o h1 ho h2 q hq hU => ?_, fun w e o h1 ho hn q hq hT => ?_⟩
    · have he := (mem_exch.mp (toDo_mem'.mp h1).1)
      have hp := h.lean (w, e + 1) h2 (w, e) ((mem_needsOf hg).mpr (.inl ⟨by show 1 < e + 1; have := he.2.1; simp at this; omega, by simp⟩)) h1
      unfold pushed at hp
      rw [if_pos rfl, gap_iff hg he.1 (h.gap (w, e + 1) h2)] at hp
      omega
    · have he := (mem_exch.mp (toDo_mem'.mp h1).1)
      have he2 := (mem_exch.mp (toDo_mem'.mp h2).1)
      have hph : phasesOf c w o ≠ [] := List.ne_nil_of_mem hq
      have hp := h.lean (w, e) h1 (o, needed c w e o) ((mem_needsOf hg).mpr (.inr ⟨o, he2.1, ho, hph, he2.2.1, rfl⟩)) h2
      unfold pushed at hp
      rw [if_neg (fun z : w = o => ho z.symm), gap_iff hg he.1 (h.gap _ h1), above_iff hg hph] at hp
      exact hp q hq hU
    · have hph : phasesOf c w o ≠ [] := List.ne_nil_of_mem hT
      have he := (mem_exch.mp (toDo_mem'.mp h1).1)
      have hpos : 0 < needed c o (at_ s o) w := by have := he.2.1; simp at this; omega
      have hu : under (τ (w, e)) (LC.due c t s) (w, e) := fun l hl => h.lim _ l hl
      have := under_due.mp hu h1 o (needed_ok hg hpos).1 (by
        unfold dueOk
        rw [Bool.and_eq_true, Bool.and_eq_true, decide_eq_true_iff, decide_eq_true_iff]
        refine ⟨ho, hn, ?_⟩
        cases q2 : phasesOf c w o with
        | nil => exact absurd q2 hph
        | cons _ _ => rfl)
      exact Int.le_trans this (next_le hg hq hT)
  · intro h
    refine ⟨h.ge, h.gap, fun x hx y hy hyd => ?_, fun x l hl => ?_⟩
    · have he := (mem_exch.mp (toDo_mem'.mp hx).1)
      rcases (mem_needsOf hg).mp hy with ⟨h1, rfl⟩ | ⟨o, h1, h2, h3, h4, rfl⟩
      · unfold pushed
        rw [if_pos rfl, gap_iff hg he.1 (h.gap _ hx)]
        have := h.ord x.1 (x.2 - 1) hyd (by rw [Nat.sub_add_cancel (by omega)]; exact hx)
        rw [Nat.sub_add_cancel (by omega)] at this
        have e9 : τ (x.1, x.2) = τ x := rfl
        omega
      · unfold pushed
        rw [if_neg (fun z : x.1 = o => h2 z.symm), gap_iff hg he.1 (h.gap _ hx), above_iff hg h3]
        exact fun q hq hU => h.fit x.1 x.2 o hx h2 hyd q hq hU
    · have hu : under (τ x) (LC.due c t s) x := under_due.mpr fun hx o ho hd => by
        unfold dueOk at hd
        rw [Bool.and_eq_true, Bool.and_eq_true, decide_eq_true_iff, decide_eq_true_iff] at hd
        have h3 : phasesOf c x.1 o ≠ [] := fun z => by
          have := hd.2.2
          rw [z] at this
          cases this
        exact h.due x.1 x.2 o hx hd.1 hd.2.1 _ (next_ge hg _ _ _) (next_hit hg h3 t)
      exact hu l hl
end
end LC
end

section
set_option Elab.async false
set_option linter.all false
set_option maxRecDepth 100000
set_option maxHeartbeats 4000000
/-! N3: one tick forth and back; a table of ticks just where the end is sure without misses. -/
namespace LC
open DL LW
theorem ph_succ {c : Clk} (h : 0 < c.per) (t : Int) : ph c (t + 1) = (ph c t + 1) % c.per := by
  have h0 : (0 : Int) < c.per := by omega
  have e : ((ph c (t + 1) : Nat) : Int) = (((ph c t + 1) % c.per : Nat) : Int) := by
    rw [LW.ph_cast h, Int.natCast_emod, Int.natCast_add, LW.ph_cast h, Int.emod_add_emod]
    rfl
  exact Int.ofNat_inj.mp e
theorem doneM_nil (s d : List Nat) : doneM s d [] = doneS s d := by
  unfold doneM
  congr 1
  exact List.filter_eq_self.mpr fun x _ => by simp
theorem some_bound (t : Int) (τ : Nat × Nat → Int) : ∀ l : List (Nat × Nat), ∃ N : Nat, ∀ x ∈ l, τ x < t + N
  | [] => ⟨0, fun _ h => nomatch h⟩
  | y :: l => by
    obtain ⟨N, h⟩ := some_bound t τ l
    refine ⟨N + (τ y - t).toNat + 1, fun x hx => ?_⟩
    rcases List.mem_cons.mp hx with q | q
    · rw [q]
      omega
    · have := h x q
      omega
section
variable {c : Clk} {s d : List Nat}
theorem toDo_iff {x : Nat × Nat} : x ∈ toDo c s ↔ x.1 < c.eds.length ∧ 1 ≤ x.2 ∧ x.2 ≤ at_ c.eds x.1 ∧ at_ s x.1 < x.2 := by
  rw [toDo_mem', mem_exch]
  exact ⟨fun ⟨⟨a, b, e⟩, f⟩ => ⟨a, b, e, f⟩, fun ⟨a, b, e, f⟩ => ⟨⟨a, b, e⟩, f⟩⟩
theorem at_doneS (hs : Std c s) {w : Nat} (h : w < c.eds.length) : at_ (doneS s d) w = at_ s w + if w ∈ d then 1 else 0 := at_done (by rw [hs.len]; exact h)
theorem toDo_step (hs : Std c s) {x : Nat × Nat} : x ∈ toDo c (doneS s d) ↔ x ∈ toDo c s ∧ ¬ (x.1 ∈ d ∧ x.2 = at_ s x.1 + 1) := by
  rw [toDo_iff, toDo_iff]
  constructor
  · rintro ⟨h1, h2, h3, h4⟩
    rw [at_doneS hs h1] at h4
    refine ⟨⟨h1, h2, h3, by split at h4 <;> omega⟩, fun ⟨z1, z2⟩ => ?_⟩
    rw [if_pos z1] at h4
    omega
  · rintro ⟨⟨h1, h2, h3, h4⟩, h5⟩
    refine ⟨h1, h2, h3, ?_⟩
    rw [at_doneS hs h1]
    by_cases z : x.1 ∈ d
    · rw [if_pos z]
      have : x.2 ≠ at_ s x.1 + 1 := fun e => h5 ⟨z, e⟩
      omega
    · rw [if_neg z]
      omega
theorem F2.chain {t : Int} {τ : Nat × Nat → Int} (h : F2 c t s τ) {w : Nat} : ∀ (k e : Nat), (w, e) ∈ toDo c s → (w, e + k) ∈ toDo c s → τ (w, e) ≤ τ (w, e + k)
  | 0, e, _, _ => Int.le_refl _
  | k + 1, e, h1, h2 => by
    have b1 := toDo_iff.mp h1
    have b2 := toDo_iff.mp h2
    have hm : (w, e + k) ∈ toDo c s := toDo_iff.mpr ⟨b1.1, by have := b1.2.1; simp at this ⊢; omega, by have := b2.2.2.1; simp at this ⊢; omega, by have := b1.2.2.2; simp at this ⊢; omega⟩
    have i1 := F2.chain h k e h1 hm
    have i2 := h.ord w (e + k) hm h2
    have e9 : τ (w, e + k + 1) = τ (w, e + (k + 1)) := rfl
    omega
theorem F2.le {t : Int} {τ : Nat × Nat → Int} (h : F2 c t s τ) {w e e' : Nat} (h1 : (w, e) ∈ toDo c s) (h2 : (w, e') ∈ toDo c s) (hle : e ≤ e') : τ (w, e) ≤ τ (w, e') := by
  have := h.chain (e' - e) e h1 (by rw [Nat.add_sub_cancel' hle]; exact h2)
  rw [Nat.add_sub_cancel' hle] at this
  exact this
variable (hg : Good c)
include hg
theorem f2_fwd {t : Int} {τ : Nat × Nat → Int} (hs : Std c s) (h : F2 c t s τ) : ∃ d ∈ deedsAt c (ph c t) s, notFit c (doneS s d) (ph c t) = [] ∧ F2 c (t + 1) (doneS s d) τ := by
  let d := (openW c (ph c t) s).filter fun w => decide (τ (w, at_ s w + 1) = t)
  have hd : d ∈ deedsAt c (ph c t) s := (mem_deeds hg).mpr ⟨(open_sorted _ _ _).sublist List.filter_sublist, fun x hx => (List.mem_filter.mp hx).1⟩
  have next : ∀ w, w < c.eds.length → at_ s w < at_ c.eds w → (w, at_ s w + 1) ∈ toDo c s := fun w h1 h2 => toDo_iff.mpr ⟨h1, by simp, by simp; omega, by simp⟩
  have md : ∀ w, w ∈ d ↔ (w, at_ s w + 1) ∈ toDo c s ∧ τ (w, at_ s w + 1) = t := fun w => by
    constructor
    · intro hw
      obtain ⟨h1, h2⟩ := List.mem_filter.mp hw
      have h3 := mem_open.mp h1
      exact ⟨next w h3.1 h3.2.1, of_decide_eq_true h2⟩
    · rintro ⟨h1, h2⟩
      have h3 := toDo_iff.mp h1
      have h4 := h.gap _ h1
      rw [h2] at h4
      exact List.mem_filter.mpr ⟨mem_open.mpr ⟨h3.1, by have := h3.2.2.1; simp at this; omega, h4⟩, decide_eq_true h2⟩
  -- what is done at t or before is done
  have early : ∀ x ∈ toDo c s, τ x ≤ t → x.1 ∈ d ∧ x.2 = at_ s x.1 + 1 := fun x hx hle => by
    have b := toDo_iff.mp hx
    have hn := next x.1 b.1 (by omega)
    have g1 := h.ge _ hn
    by_cases e : x.2 = at_ s x.1 + 1
    · refine ⟨(md _).mpr ⟨hn, ?_⟩, e⟩
      have e2 : τ (x.1, at_ s x.1 + 1) = τ x := by rw [← e]
      omega
    · exfalso
      have hx1 : (x.1, (x.2 - 1) + 1) ∈ toDo c s := by rw [Nat.sub_add_cancel (by omega)]; exact hx
      have hx2 : (x.1, x.2 - 1) ∈ toDo c s := toDo_iff.mpr ⟨b.1, by simp; omega, by simp; omega, by simp; omega⟩
      have g2 := h.ord x.1 (x.2 - 1) hx2 hx1
      have g3 := h.le hn hx2 (by omega)
      have e2 : τ (x.1, x.2 - 1 + 1) = τ x := by rw [Nat.sub_add_cancel (by omega)]
      omega
  have sub : ∀ x, x ∈ toDo c (doneS s d) → x ∈ toDo c s := fun x hx => ((toDo_step hs).mp hx).1
  refine ⟨d, hd, (notFit_iff hg).mpr fun i j hp hij => ?_, ⟨fun x hx => ?_, fun x hx => h.gap x (sub x hx), fun w e h1 h2 => h.ord w e (sub _ h1) (sub _ h2), fun w e o h1 ho h2 => h.fit w e o (sub _ h1) ho (sub _ h2), fun w e o h1 ho hn q hq hT => ?_⟩⟩
  · -- the touches at t
    apply Nat.le_of_not_lt
    intro hlt
    have hpos : 0 < needed c i (at_ (doneS s d) i) j := by omega
    obtain ⟨hi, hj, hle, _⟩ := needed_ok hg hpos
    have hy : (j, needed c i (at_ (doneS s d) i) j) ∈ toDo c (doneS s d) := toDo_iff.mpr ⟨hj, hpos, hle, hlt⟩
    have hys := sub _ hy
    have hyt : ¬ τ (j, needed c i (at_ (doneS s d) i) j) ≤ t := fun z => ((toDo_step hs).mp hy).2 (early _ hys z)
    have hTc : Tc c i j t := hp
    rw [at_doneS hs hi] at hyt hys
    by_cases hid : i ∈ d
    · rw [if_pos hid] at hyt hys
      obtain ⟨m1, m2⟩ := (md i).mp hid
      exact hyt (h.fit i _ j m1 (fun z => hij z.symm) hys t hTc (by omega))
    · rw [if_neg hid, Nat.add_zero] at hyt hys
      exact hyt (h.due j _ i hys hij (Nat.le_refl _) t (Int.le_refl t) (by unfold Tc; rw [phs_comm]; exact hTc))
  · have h1 := sub x hx
    have h2 : ¬ τ x ≤ t := fun z => ((toDo_step hs).mp hx).2 (early x h1 z)
    omega
  · have h1s := sub _ h1
    have b := toDo_iff.mp h1s
    have hpos : 0 < needed c o (at_ (doneS s d) o) w := by have := b.2.1; simp at this; omega
    obtain ⟨hoo, hww, hle, _⟩ := needed_ok hg hpos
    rw [at_doneS hs hoo] at hn hpos hle
    by_cases hod : o ∈ d
    · rw [if_pos hod] at hn hpos hle
      obtain ⟨m1, m2⟩ := (md o).mp hod
      have hyn : (w, needed c o (at_ s o + 1) w) ∈ toDo c s := toDo_iff.mpr ⟨hww, hpos, hle, by have := b.2.2.2; simp at this ⊢; omega⟩
      have f1 := h.fit o _ w m1 (fun z => ho z.symm) hyn q (by unfold Tc; rw [phs_comm]; exact hT) (by omega)
      exact Int.le_trans (h.le h1s hyn hn) f1
    · rw [if_neg hod, Nat.add_zero] at hn
      exact h.due w e o h1s ho hn q (by omega) hT
theorem f2_bwd {t : Int} {τ' : Nat × Nat → Int} (hs : Std c s) (hd : d ∈ deedsAt c (ph c t) s) (hf : notFit c (doneS s d) (ph c t) = []) (h : F2 c (t + 1) (doneS s d) τ') : ∃ τ, F2 c t s τ := by
  have hf := (notFit_iff hg).mp hf
  have ho : ∀ w ∈ d, w < c.eds.length ∧ at_ s w < at_ c.eds w ∧ ph c t ∈ gapsOf c w := deeds_open hd
  let τ : Nat × Nat → Int := fun x => if x ∈ toDo c (doneS s d) then τ' x else t
  have pos : ∀ x, x ∈ toDo c (doneS s d) → τ x = τ' x := fun x hx => if_pos hx
  have neg : ∀ x, x ∉ toDo c (doneS s d) → τ x = t := fun x hx => if_neg hx
  have out : ∀ x, x ∈ toDo c s → x ∉ toDo c (doneS s d) → x.1 ∈ d ∧ x.2 = at_ s x.1 + 1 := fun x h1 h2 => Classical.byContradiction fun z => h2 ((toDo_step hs).mpr ⟨h1, z⟩)
  have hle : ∀ i, at_ s i ≤ at_ (doneS s d) i := fun i => by
    by_cases q : i < c.eds.length
    · rw [at_doneS hs q]
      omega
    · have : at_ s i = 0 := by
        unfold at_
        rw [List.getD_eq_getElem?_getD, List.getElem?_eq_none (by rw [hs.len]; omega)]
        rfl
      omega
  refine ⟨τ, ⟨fun x hx => ?_, fun x hx => ?_, fun w e h1 h2 => ?_, fun w e o h1 how h2 q hq hU => ?_, fun w e o h1 how hn q hq hT => ?_⟩⟩
  · by_cases z : x ∈ toDo c (doneS s d)
    · rw [pos x z]
      have := h.ge x z
      omega
    · rw [neg x z]
      exact Int.le_refl t
  · by_cases z : x ∈ toDo c (doneS s d)
    · rw [pos x z]
      exact h.gap x z
    · rw [neg x z]
      exact (ho _ (out x hx z).1).2.2
  · by_cases z : (w, e) ∈ toDo c (doneS s d)
    · have b := toDo_iff.mp z
      have b2 := toDo_iff.mp h2
      have z2 : (w, e + 1) ∈ toDo c (doneS s d) := toDo_iff.mpr ⟨b2.1, b2.2.1, b2.2.2.1, by have := b.2.2.2; simp at this ⊢; omega⟩
      rw [pos _ z, pos _ z2]
      exact h.ord w e z z2
    · obtain ⟨o1, o2⟩ := out _ h1 z
      have z2 : (w, e + 1) ∈ toDo c (doneS s d) := (toDo_step hs).mpr ⟨h2, fun q => by have := q.2; simp at this o2; omega⟩
      rw [neg _ z, pos _ z2]
      have := h.ge _ z2
      omega
  · by_cases zy : (o, needed c w e o) ∈ toDo c (doneS s d)
    · rw [pos _ zy]
      by_cases zx : (w, e) ∈ toDo c (doneS s d)
      · rw [pos _ zx] at hU
        exact h.fit w e o zx how zy q hq hU
      · rw [neg _ zx] at hU
        obtain ⟨o1, o2⟩ := out _ h1 zx
        have bw := ho w o1
        have ew : at_ (doneS s d) w = e := by
          rw [at_doneS hs bw.1, if_pos o1]
          exact o2.symm
        have by' := toDo_iff.mp zy
        rcases Int.lt_or_eq_of_le hU with q2 | q2
        · refine h.due o _ w zy (fun z => how z.symm) (by rw [ew]; exact Nat.le_refl _) q (by omega) ?_
          unfold Tc
          rw [phs_comm]
          exact hq
        · exfalso
          subst q2
          have := hf w o hq (fun z => how z.symm)
          rw [ew] at this
          have h9 := by'.2.2.2
          simp at h9
          omega
    · rw [neg _ zy]
      by_cases zx : (w, e) ∈ toDo c (doneS s d)
      · rw [pos _ zx] at hU
        have := h.ge _ zx
        omega
      · rw [neg _ zx] at hU
        exact hU
  · by_cases zy : (w, e) ∈ toDo c (doneS s d)
    · rw [pos _ zy]
      have hn2 : e ≤ needed c o (at_ (doneS s d) o) w := Nat.le_trans hn (needed_mono (hle o))
      rcases Int.lt_or_eq_of_le hq with q2 | q2
      · exact h.due w e o zy how hn2 q (by omega) hT
      · exfalso
        subst q2
        have h1 := hf o w (by rw [phs_comm]; exact hT) how
        have h9 := (toDo_iff.mp zy).2.2.2
        simp at h9
        omega
    · rw [neg _ zy]
      exact hq
theorem std_eq (hs : Std c s) (h : toDo c s = []) : s = c.eds := by
  apply List.ext_getElem?
  intro i
  by_cases q : i < c.eds.length
  · rw [at_get q, at_get (by rw [hs.len]; exact q)]
    congr 1
    have h1 := hs.le i
    apply Nat.le_antisymm h1
    apply Nat.le_of_not_lt
    intro h2
    have : (i, at_ s i + 1) ∈ toDo c s := toDo_iff.mpr ⟨q, by simp, by simp; omega, by simp⟩
    rw [h] at this
    cases this
  · rw [List.getElem?_eq_none (show s.length ≤ i by rw [hs.len]; omega), List.getElem?_eq_none (by omega)]
theorem f2_sure : ∀ (N : Nat) (t : Int) (s : List Nat) (τ : Nat × Nat → Int), Std c s → F2 c t s τ → (∀ x ∈ toDo c s, τ x < t + N) → Sure c 0 (ph c t) s
  | 0, t, s, τ, hs, h, hN => by
    have e : toDo c s = [] := List.eq_nil_iff_forall_not_mem.mpr fun x hx => by
      have h1 := hN x hx
      have h2 := h.ge x hx
      omega
    rw [std_eq hg hs e]
    exact .done (ph_lt hg.per0 t)
  | N + 1, t, s, τ, hs, h, hN => by
    obtain ⟨d, hd, hf, h2⟩ := f2_fwd hg hs h
    have hs2 : Std c (doneS s d) := std_doneS hs fun w hw => (deeds_open hd w hw).2.1
    have ih := f2_sure N (t + 1) (doneS s d) τ hs2 h2 fun x hx => by
      have := hN x ((toDo_step hs).mp hx).1
      omega
    rw [ph_succ hg.per0] at ih
    have nil : ∀ m ∈ subs d, m.length ≤ 0 → m = [] := fun m _ hm => List.length_eq_zero_iff.mp (by omega)
    exact .step (ph_lt hg.per0 t) hd (fun m hm hl => by rw [nil m hm hl, doneM_nil]; exact hf) fun m hm hl => by rw [nil m hm hl, doneM_nil]; exact ih
theorem sure_f2 {k p : Nat} {s : List Nat} (h : Sure c k p s) : ∀ t, ph c t = p → Std c s → ∃ τ, F2 c t s τ := by
  induction h with
  | done hp =>
    intro t _ hs
    have e : toDo c c.eds = [] := List.eq_nil_iff_forall_not_mem.mpr fun x hx => by
      have := toDo_iff.mp hx
      omega
    have no : ∀ x, x ∉ toDo c c.eds := fun x hx => by rw [e] at hx; cases hx
    exact ⟨fun _ => t, ⟨fun x hx => absurd hx (no x), fun x hx => absurd hx (no x), fun w e h1 => absurd h1 (no _), fun w e o h1 => absurd h1 (no _), fun w e o h1 => absurd h1 (no _)⟩⟩
  | @step k p s d hp hd h1 h2 ih =>
    intro t ht hs
    subst ht
    have hnil : ([] : List Nat) ∈ subs d := (mem_subs ((mem_deeds hg).mp hd).1 []).mpr ⟨List.Pairwise.nil, fun _ h => nomatch h⟩
    have f1 := h1 [] hnil (Nat.zero_le _)
    have f2 := ih [] hnil (Nat.zero_le _)
    rw [doneM_nil] at f1 f2
    have hs2 : Std c (doneS s d) := std_doneS hs fun w hw => (deeds_open hd w hw).2.1
    obtain ⟨τ', h'⟩ := f2 (t + 1) (ph_succ hg.per0 t) hs2
    exact f2_bwd hg hs hd f1 h'
/-- what rest tells and what sure tells -/
theorem feas_iff {t : Int} {s : List Nat} (hs : Std c s) : (∃ τ, Feas c t s τ) ↔ Sure c 0 (ph c t) s := by
  constructor
  · rintro ⟨τ, h⟩
    obtain ⟨N, hN⟩ := some_bound t τ (toDo c s)
    exact f2_sure hg N t s τ hs ((feas_f2 hg).mp h) hN
  · intro h
    obtain ⟨τ, h⟩ := sure_f2 hg h t rfl hs
    exact ⟨τ, (feas_f2 hg).mpr h⟩
end
end LC
end

section
set_option Elab.async false
set_option linter.all false
set_option maxRecDepth 100000
set_option maxHeartbeats 4000000
/-! J8a: (0,) * n. -/
namespace L2
open PySem PySem.Spec PyProof.Rows
/-- t * 1 is t -/
theorem tuple_mul1 (l : Addr) (items : Array Value) (n : Nat) (dd : Option Addr) (sl : Array (Option Value)) (u : Tok) :
    Meets (Builtin.«tuple.__mul__» ⟨[.ref l, .int 1 u], []⟩) (fun _ R s => s.heap.get? l = some { cls := .type "tuple", dict := dd, data := .seq items n, slots := sl } ∧ R (.ok (.ret (Value.ref l))) s) :=
  .of_wp fun prog w A R s h => by
    obtain ⟨hp, g, d, tk, os⟩ := s
    obtain ⟨hl, h⟩ := h
    have f1 := AutoSeq1.idx_int
    have c0 : (decide ((1 : Int) < -(2 ^ 63)) || decide ((1 : Int) ≥ 2 ^ 63)) = false := by decide
    have c1 : (items.isEmpty || (1 : Int) == 1) = true := by rw [show ((1 : Int) == 1) = true from rfl, Bool.or_true]
    wp_walk using wpAny_loadPart' hl
    exact ⟨_, rfl, h⟩
section
variable {X : Cx}
def rRep0 (K : PySem.W.Frag) : R2 := fun x y H Q => ∃ l k, x = .ref l ∧ y = .int k ∧ SqT K H l [.int 0] ∧ 1 ≤ k ∧ k ≤ 1000 ∧ (k = 1 → Q (.ref l) H) ∧ (2 ≤ k → ∀ p, H p = none → Q (.ref p) (upd H p (.tup (List.replicate k.toNat [V.int 0]).flatten)))
theorem op_rep0 : OpR X (binaryOp .Mult) (rRep0 X.K) := by
  rintro pins s σ H _ _ v u Q I rx ry ⟨l, k, rfl, rfl, hT, h1, h2, q1, q2⟩
  by_cases hk : 2 ≤ k
  · exact op_repT pins s σ H _ _ v u Q I rx ry ⟨l, k, _, rfl, rfl, hT, by simp, hk, h2, Nat.le_of_ble_eq_true rfl, q2 hk⟩
  · obtain rfl : k = 1 := by omega
    cases rx
    obtain ⟨t, rfl⟩ := ry
    obtain ⟨its, r, ⟨⟨cls, dd, data, sl⟩, ho, hc, n, hd⟩, hs⟩ := I.tuple hT
    simp only at hc hd
    subst hc hd
    exact wpAny_binaryOp_repeat_ref (T := "tuple") (U := "int") (by decide) ⟨_, ho, rfl⟩ (fun s' => typeIs_int s' 1 t) noFill_tuple_mul F.fills_int_mul F.slot_int_rmul repeat_tuple F.slot_int_index.lookup
      (call_meets F.slot_int_rmul (typeIs_int s 1 t) F.entry_int_rmul (F.args_int_rmul_2 _ _) (int_rmul_tuple 1 t l its.toArray n dd sl) ⟨ho, rfl, ⟨_, ho, rfl⟩, call_meets F.slot_tuple_mul ⟨_, ho, rfl⟩ F.entry_tuple_mul (F.args_tuple_mul_2 _ _) (tuple_mul1 l its.toArray n dd sl t) ⟨ho, .ref l, H, I, rfl, q1 rfl⟩⟩)
end
end L2
namespace DL
open PySem PySem.Spec L2
section
variable {X : Cx} {Γ : En} {a b e : Expr} {pos : Pos}
/-- (0,) * n -/
theorem je_rep0 {n : Nat} (ha : PE X a (tR X.K Γ (.d (.t [.i 0])))) (hb : PE X b (tR X.K Γ (.d (.i (n : Nat))))) (h1 : 1 ≤ n) (h2 : n ≤ 1000) : PE X (.BinOp a .Mult b pos) (tR X.K Γ (.d (.t (nums (LW.nn (List.replicate n 0)))))) :=
  je_op op_rep0 (fun B H v w Q kb tk g1 g2 q => by
    obtain ⟨t, vs, e1, g1, g3⟩ := g1
    have g2 : w = .int (n : Nat) := g2
    subst e1 g2
    obtain rfl : vs = [V.int 0] := dns_nums (ns := [0]) g3
    have t1 := kb.tk _ _ g1 rfl
    have er : ∀ m : Nat, (List.replicate m [V.int 0]).flatten = (LW.nn (List.replicate m 0)).map V.int := fun m => by
      induction m with
      | zero => rfl
      | succ m ih =>
        rw [List.replicate_succ, List.flatten_cons, ih]
        rfl
    refine ⟨t, _, rfl, rfl, SqT.of t1, by omega, by omega, fun hk => ?_, fun hk p hp => ?_⟩
    · obtain rfl : n = 1 := by omega
      exact q _ H (Keep.refl H) ⟨t, _, rfl, t1, nums_dns (ns := [0])⟩
    · rw [Int.toNat_natCast, er]
      exact q _ _ (Keep.new hp) ⟨p, _, rfl, upd_same, nums_dns⟩) ha hb
theorem jn_if {cnd : Expr} {x : Bool} {P : D → Prop} (hc : PT X cnd (tT X.K Γ x)) (ha : x = true → PE X a (tN X.K Γ P)) (hb : x = false → PE X b (tN X.K Γ P)) : PE X (.IfExp cnd a b pos) (tN X.K Γ P) :=
  pe_imp (pe_ifExp hc (pe_cond ha) (pe_cond hb)) fun σ H Q ⟨Z, k, q⟩ => ⟨Z, k, fun H' n => by
    dsimp only
    cases x with
    | true =>
      rw [if_pos rfl]
      exact ⟨rfl, Z, n.ok, fun d v H2 hp n2 r2 => q d v H2 hp (n.trans n2) r2⟩
    | false =>
      rw [if_neg Bool.false_ne_true]
      exact ⟨rfl, Z, n.ok, fun d v H2 hp n2 r2 => q d v H2 hp (n.trans n2) r2⟩⟩
/-- is not None, of one of several, all of which answer alike -/
theorem je_notNN {x : Bool} {P : D → Prop} (ha : PE X a (tN X.K Γ P)) (hx : ∀ d, P d → (!d.isNon) = x) {j : Nat} {p2 : Pos} : PE X (.Compare a [.IsNot] [.Constant .none j p2] pos) (tR X.K Γ (.d (.b x))) :=
  pe_imp (pe_cmp (pc_notN ha) rfl) fun σ H Q ⟨Z, k, q⟩ => ⟨Z, k, fun d v H' hp n r => by
    show Q (.bl (!decide (v = .non))) H'
    rw [isNon_V (d := d) r, hx d hp]
    exact q _ H' n rfl⟩
end
theorem LcR.pairs {xs : List Nat} {ds : List D} {Pf : Nat → D → Prop} (h : LcR (fun _ b => b = true) Pf xs ds) (hf : ∀ x d, Pf x d → ∃ k, k ≤ x ∧ d = LW.eN k) : ∃ es : List Nat, ds = es.map LW.eN ∧ es.length = xs.length ∧ ∀ i, LC.at_ es i ≤ LC.at_ xs i := by
  induction h with
  | nil => exact ⟨[], rfl, rfl, fun i => Nat.le_refl _⟩
  | skip _ h1 _ => cases h1
  | @take xs ds x d _ _ h2 ih =>
    obtain ⟨es, rfl, hl, hle⟩ := ih
    obtain ⟨k, hk, rfl⟩ := hf x d h2
    refine ⟨es ++ [k], by rw [List.map_append]; rfl, by rw [List.length_append, List.length_append, hl]; rfl, fun i => ?_⟩
    have key : ∀ (l : List Nat) (z : Nat), LC.at_ (l ++ [z]) i = if i < l.length then LC.at_ l i else if i = l.length then z else 0 := fun l z => by
      unfold LC.at_
      rw [List.getD_eq_getElem?_getD, List.getD_eq_getElem?_getD]
      by_cases q : i < l.length
      · rw [if_pos q, List.getElem?_append_left q]
      · rw [if_neg q, List.getElem?_append_right (by omega)]
        by_cases q2 : i = l.length
        · rw [if_pos q2, q2, Nat.sub_self]
          rfl
        · rw [if_neg q2, List.getElem?_eq_none (by simp; omega)]
          rfl
    rw [key, key, hl]
    split
    · exact hle i
    · split
      · exact hk
      · exact Nat.le_refl _
end DL
end

section
set_option Elab.async false
set_option linter.all false
set_option maxRecDepth 100000
set_option maxHeartbeats 8000000
/-! J8: law. -/
namespace LC
open DL LW
theorem filter_range (n : Nat) : ∀ N : Nat, ((List.range N).filter fun l => decide (l < n)) = List.range (min n N)
  | 0 => by rw [Nat.min_zero]; rfl
  | N + 1 => by
    rw [List.range_succ, List.filter_append, filter_range n N]
    by_cases h : N < n
    · rw [List.filter_cons_of_pos (by simpa using h), Nat.min_eq_right (by omega), Nat.min_eq_right (by omega), List.range_succ]
      rfl
    · rw [List.filter_cons_of_neg (by simpa using h), Nat.min_eq_left (by omega), Nat.min_eq_left (by omega)]
      simp
theorem sureB_iff {c : Clk} {m p : Nat} {s : List Nat} : sureB c m p s = true ↔ Sure c m p s := by
  unfold sureB
  simp
theorem dec_eq {p : Prop} {b : Bool} (inst : Decidable p) (h : p ↔ b = true) : @decide p inst = b := by
  cases b with
  | true => exact @decide_eq_true p inst (h.mpr rfl)
  | false => exact @decide_eq_false p inst fun z => nomatch h.mp z
theorem ph_nat {c : Clk} {p : Nat} (h : p < c.per) : ph c (p : Int) = p := by
  have h1 := LW.ph_cast (c := c) (by omega) (p : Int)
  rw [Int.emod_eq_of_lt (by omega) (by omega)] at h1
  omega
end LC
namespace LW
open PySem PySem.Spec L2 DL LC QL
section
variable {P : Program} {w0 : World} {K : PySem.W.Frag} {mg : Str → Option Value} {base : Heap} {f : Addr} {fd : FuncData}
abbrev sLw : Stmt := topS 69
abbrev nLw : List Str := ["_law_script", "_law_row", "_law_clock", "_law_misses", "_law_due", "_law_turn", "_law_phase", "_law_standing", "_law_most", "_law_told", "_law_last", "_law_left"]
abbrev psLw : List Str := ["_law_script"]
theorem scLw : FnScope nLw psLw (defScope sLw) := ⟨rfl, rfl, rfl, by decide +kernel, rfl, by decide +kernel, by decide +kernel⟩
def pmLw : Pm := ⟨List Int, fun ns => [.d (.s ns)], fun _ => True, fun _ r => r = .d (.b true)⟩
theorem ok_lw (B : Blt mg) (GT : DfM P w0 K mg base 1 "_law_taken" psTk (pmTk K)) (GF : DfM P w0 K mg base 3 "_law_few" psFw (pmFw K)) (GSu : Df P w0 K mg base 4 "_law_sure" psSu (pmSu P w0 K)) (GLA : Df P w0 K mg base 1 "_law_alike" psLA pmLA) (GS : Df P w0 K mg base 9 "sure" nGame pmSure) (GR : Df P w0 K mg base 6 "rest" nMid pmRest) (GMo : Df P w0 K mg base 9 "most_misses" psMost pmMost)
    (F : Fun K "law" "law" sLw f fd) : FnOk P w0 K mg base CX0 10 f fd psLw (spP K pmLw) := by
  refine fn_ok F scLw (fun _ => rfl) (fun _ _ => by simp [pmLw]) (by decide) fun cdv A outer s H E (ns : List Int) hr _ => ?_
  show PSs _ _ (tS K [.d (.s ns), .u, .u, .u, .u, .u, .u, .u, .u, .u, .u, .u] _)
  have hu9 : (A.deeper (PyProof.Rows.envOfC "law" (defScope sLw) s.heap.objs.size f cdv)).units + 9 < cLine := by have := hr.un; omega
  refine js_cons (js_setF 1 (P := (· = cl K [.s ns, .i 0, .i 6028, .i 0])) scLw.nd (je_lst (ds := [.s ns, .i 0, .i 6028, .i 0]) (ja_cons (jv 0) (ja_cons je_int (ja_cons je_int (ja_cons je_int ja_nil))))) fun cc hc => ?_)
  subst hc
  refine js_owv (c' := rowQ K) 1 rfl (fun b o B h => ⟨(ns, 0, 6028, 0), Int.le_refl 0, h⟩) ?_
  obtain ⟨ff, fdf, Ff, hmf, kpf, bf⟩ := GF.ex
  refine js_cons (js_par 2 3 rfl scLw.nd (ju_n (P := fun d => ∃ c, d = eC c ∧ Good c) (je_callM 1 Ff (hr.mono (by decide)) hmf kpf bf rfl (PP := (· = [])) jau_nil (fun ss e a ob B on => ?_))) (ju_n (je_tk 1 (m := 3) GT hr (by decide) rowC_Q je_int rfl (by decide) (by decide))) fun s1 s2 h1 h2 => ?_)
  · obtain ⟨q1, q2⟩ := rowC_E2 rowC_Q on
    exact ⟨(), e.symm, trivial, q1, fun d h => h, q2⟩
  obtain ⟨_, c, rfl, hg⟩ := h1
  obtain ⟨_, ms, hms, rfl⟩ := h2
  have h4 := hg.per4
  have h0 := hg.per0
  have hn3 := hg.n3
  have hn0 := hg.n0
  refine js_cons (js_setF 4 (P := fun cc => ∃ ks, FoundOk c ms ks ∧ cc = nC kT P w0 K ks) scLw.nd (jcF GSu (c, ms) hr (by decide) (ja_cons (jv 2) (ja_cons (jv 3) ja_nil)) ⟨hg, by omega⟩ fun r ⟨ks, h, e⟩ => ⟨_, e, ks, h, rfl⟩) fun cc hc => ?_)
  obtain ⟨ks, hF, rfl⟩ := hc
  refine js_freezeP 4 lend_n ?_
  refine js_cons (js_for (ds := nums (rng 0 ((6 : Nat) : Int))) (fun i Γ => ∃ x5 x6 x7 x8 x9 : Sl, Γ = [.d (.s ns), .o (rowQ K), .d (eC c), .d (eN ms), .p (nP kT P w0 K ks), x5, x6, x7, x8, x9, .u, .u]) PassesOwn.never rfl (ji_is (ji_range1 (hi := 6) B.range je_int (by decide)) rfl) (pg_name scLw.nd rfl (Or.inl rfl)) (tg_name 5) ⟨.u, .u, .u, .u, .u, rfl⟩ (fun i dd Γ' hd hI => ?_) fun Γ' hI => ?_)
  · obtain ⟨x5, x6, x7, x8, x9, rfl⟩ := hI
    rw [rng_nn, List.getElem?_map] at hd
    obtain ⟨turn, _, rfl⟩ := Option.map_eq_some_iff.mp hd
    refine ⟨[.d (.s ns), .o (rowQ K), .d (eC c), .d (eN ms), .p (nP kT P w0 K ks), .d (eN turn), x6, x7, x8, x9, .u, .u], rfl, ?_⟩
    refine js_cons (js_setN 6 (P := fun d => ∃ k, k < c.per ∧ d = eN k) scLw.nd (je_tk 1 GT hr (by decide) rowC_Q (je_ix (jv 2) je_int) rfl h0 (by omega)) fun d ⟨p, hp, e⟩ => ?_)
    subst e
    refine js_cons (js_setN 7 (P := fun d => ∃ st, d = eT st ∧ Std c st) scLw.nd (jn_if (x := decide ((1 : Int) < (turn : Nat))) (jt_gt (jv 5) je_int) (fun z => jn_imp (jl_tuple (P := fun ds => ∃ es : List Nat, ds = es.map eN ∧ Std c es) B.tuple (jl_f (je_lcN (xs := c.eds) (enc := eN) (Pt := fun _ b => b = true) (Pf := fun x d => ∃ k, k < x + 1 ∧ d = eN k) (Γe := fun x => [.d (.s ns), .o (rowQ K), .d (eC c), .d (eN ms), .p (nP kT P w0 K ks), .d (eN turn), .d (eN p), x7, x8, x9, .d (eN x), .u]) [("_law_last", 10)] rfl scLw.nd
        (ji_is (ji_tup (je_ix (jv 2) je_int)) (nums_nn _)) (blkOk_by (N := nLw) (sc := defScope sLw) (by decide +kernel)) (tg_name 10) (by decide) rfl (fun x _ => rfl) (by omega) (fun _ _ _ _ _ => pg_name scLw.nd rfl (Or.inl rfl)) (fun _ _ _ _ _ _ _ => jtn_nil) (fun x hx _ s H C cl fp => je_tk 1 GT hr (by decide) rowC_Q (je_add (jv 10) je_int) rfl (by omega) (by have := hg.ed x hx; omega))) fun cc ⟨ds, e, hR⟩ => ?_)) fun d h => ?_)
      fun z => jn_imp (jn_d (je_rep0 (je_tup (ds := [.i 0]) (ja_cons je_int ja_nil)) (je_is (je_lenT B.len (je_ix (jv 2) je_int)) (by rw [nn_len])) hn0 (by omega))) fun d h => ?_) fun d h => ?_)
    · obtain ⟨es, e1, e2, e3⟩ := hR.pairs (fun x d ⟨k, hk, e⟩ => ⟨k, by omega, e⟩)
      exact ⟨ds, e, es, e1, e2, e3⟩
    · obtain ⟨ds, rfl, es, rfl, hs⟩ := h
      exact ⟨es, by unfold eT; rw [nums_nn], hs⟩
    · subst h
      refine ⟨_, rfl, by rw [List.length_replicate], fun i => ?_⟩
      have : at_ (List.replicate c.eds.length 0) i = 0 := by
        unfold at_
        rw [List.getD_eq_getElem?_getD, List.getElem?_replicate]
        split <;> rfl
      omega
    obtain ⟨st, rfl, hs⟩ := h
    have key : ∀ l, l ≤ ms → ((((p, st, l) : Ky) ∈ ks) ↔ sureB c l p st = true) := fun l hl => by rw [sureB_iff]; exact found_iff hg hF hs hl
    -- sure is what was found
    refine js_cons (js_ifN (jt_is (jt_not (jt_val (jc GLA (sureB c ms p st, sureB c ms p st) hr (by decide) (ja_cons (jc GS (c, p, st, ms) hr (by decide) (ja_cons (jv 2) (ja_cons (jv 6) (ja_cons (jv 7) (ja_cons (jv 3) ja_nil)))) ⟨hg, hs, hp, by omega⟩ fun r h => h) (ja_cons (je_is (je_nin (E := kT) (k := (p, st, ms)) hu9 (je_kt (ja_cons (jv 6) (ja_cons (jv 7) (ja_cons (jv 3) ja_nil)))) (jvp 4)) ?_) ja_nil)) trivial fun r h => h))) ?_) ?_)
    · exact congrArg D.b (dec_eq _ (key ms (Nat.le_refl _)))
    · simp
    -- rest is there just where nothing need be missed
    refine js_cons (js_ifN (jt_is (jt_cmp op_ne o2_neB (je_notNN (x := sureB c 0 p st) (jcN (P := fun d => (!d.isNon) = sureB c 0 p st) GR (c, p, st) hr (by decide) (ja_cons (jv 2) (ja_cons (jv 6) (ja_cons (jv 7) ja_nil))) (show Good c ∧ Std c st ∧ p < c.per from ⟨hg, hs, hp⟩) fun r h => ?_) fun d h => h) (jc GS (c, p, st, 0) hr (by decide) (ja_cons (jv 2) (ja_cons (jv 6) (ja_cons (jv 7) (ja_cons je_int ja_nil)))) ⟨hg, hs, hp, Nat.zero_le _⟩ fun r h => h) (nomark _)) ?_) ?_)
    · have hfe := feas_iff hg (t := (p : Int)) hs
      rw [ph_nat hp, ← sureB_iff] at hfe
      rcases h with ⟨rfl, hno⟩ | ⟨ds, rfl, hex⟩
      · refine ⟨_, rfl, ?_⟩
        cases q : sureB c 0 p st with
        | false => rfl
        | true => exact absurd (hfe.mpr q) hno
      · refine ⟨_, rfl, ?_⟩
        rw [hfe.mp hex]
        rfl
    · rw [decide_eq_true rfl]
      rfl
    -- how many may be missed
    refine js_cons (js_setN 8 (P := fun d => ∃ n, n ≤ 13 ∧ (∀ j, j < n → Sure c j p st) ∧ (n < 13 → ¬ Sure c n p st) ∧ d = mostD n) scLw.nd (jcN GMo (c, p, st) hr (by decide) (ja_cons (jv 2) (ja_cons (jv 6) (ja_cons (jv 7) ja_nil))) ⟨hg, hs, hp⟩ fun r ⟨n, h1, h2, h3, e⟩ => ⟨_, e, n, h1, h2, h3, rfl⟩) fun d ⟨n, hn, hn1, hn2, e⟩ => ?_)
    subst e
    have hlt : ∀ l, l ≤ ms → (sureB c l p st = decide (l < n)) := fun l hl => by
      rw [Bool.eq_iff_iff, sureB_iff, decide_eq_true_iff]
      refine ⟨fun q => Classical.byContradiction fun z => hn2 (by omega) (q.less n (by omega)), hn1 l⟩
    refine js_cons (js_setLc 9 (xs := List.range (ms + 1)) (enc := eN) (f := eN) (pb := fun l => decide (l < n)) (Γe := fun l => [.d (.s ns), .o (rowQ K), .d (eC c), .d (eN ms), .p (nP kT P w0 K ks), .d (eN turn), .d (eN p), .d (eT st), .d (mostD n), x9, .u, .d (eN l)]) [("_law_left", 11)] rfl scLw.nd rfl rfl (by simp) (sw_true rfl rfl rfl (by decide +kernel)) (ji_is (ji_range1 (hi := (ms : Int) + 1) B.range (je_add (jv 3) je_int) (by omega)) (rng_nn (ms + 1))) (blkOk_by (N := nLw) (sc := defScope sLw) (by decide +kernel)) (tg_name 11) (by decide) rfl (fun x _ => rfl) (by rw [List.length_range]; omega) (fun _ _ _ _ _ => pg_name scLw.nd rfl (Or.inl rfl))
      (fun l hl s H C cl fp => jts_one (jt_is (jt_nin (E := kT) (k := (p, st, l)) hu9 (je_kt (ja_cons (jv 6) (ja_cons (jv 7) (ja_cons (jv 11) ja_nil)))) (jvp 4)) ?_)) (fun l hl _ s H C cl fp => jv 11) ?_)
    · have hl := List.mem_range.mp hl
      rw [← hlt l (by omega)]
      exact dec_eq _ (key l (by omega))
    rw [filter_range]
    refine js_freezeP 9 lend_pl ?_
    have hfin : ∀ Γ : En, (∃ x5 x6 x7 x8 x9 : Sl, Γ = [.d (.s ns), .o (rowQ K), .d (eC c), .d (eN ms), .p (nP kT P w0 K ks), x5, x6, x7, x8, x9, .u, .u]) → True := fun _ _ => trivial
    refine js_one (js_if (x := ((List.range (min n (ms + 1))).map eN).isEmpty) (jt_eqN hr.units (jvp 9) (je_fp (je_lst (ds := []) ja_nil)) ?_) (fun z => ?_) fun z => ?_)
    · rw [← nums_nn, depth_nums]
      omega
    · have hn0' : n = 0 := by
        rw [List.isEmpty_map, List.isEmpty_iff, List.range_eq_nil] at z
        omega
      subst hn0'
      exact js_one (js_ifN (jt_is (jt_notND (jv 8)) rfl) ⟨.d (eN turn), .d (eN p), .d (eT st), .d (mostD 0), _, rfl⟩)
    · have hnp : n ≠ 0 := fun e => by
        subst e
        rw [Nat.zero_min] at z
        exact absurd z (by decide)
      obtain ⟨k, rfl⟩ := Nat.exists_eq_succ_of_ne_zero hnp
      have hlast : L2.atI ((List.range (min (k + 1) (ms + 1))).map eN) (-1) = some (eN (min k ms)) := by
        unfold L2.atI L2.ixN
        rw [List.length_map, List.length_range, if_neg (by decide), if_pos (by omega)]
        have e : ((-1 : Int) + ((min (k + 1) (ms + 1) : Nat) : Int)).toNat = min k ms := by omega
        rw [e]
        show ((List.range (min (k + 1) (ms + 1))).map eN)[min k ms]? = _
        rw [List.getElem?_map, List.getElem?_range (by omega)]
        rfl
      refine js_one (js_ifN (jt_is (PW.pt (jw_or (jt_isND (d := eN k) (jv 8)) fun _ => jw_or (jt_lt (jv 8) (je_ixl (jvp 9) (je_neg je_int) hlast)) fun _ => jw_or1 (PW.pt (jw_and (jt_lt (je_ixl (jvp 9) (je_neg je_int) hlast) (jv 3)) fun _ => jw_and1 (jt_neI (jv 8) (je_ixl (jvp 9) (je_neg je_int) hlast)))))) ?_) ⟨.d (eN turn), .d (eN p), .d (eT st), .d (mostD (k + 1)), _, rfl⟩)
      have a1 : decide (((k : Nat) : Int) < ((min k ms : Nat) : Int)) = false := decide_eq_false (by omega)
      have a2 : (decide (((min k ms : Nat) : Int) < ((ms : Nat) : Int)) && !decide (((k : Nat) : Int) = ((min k ms : Nat) : Int))) = false := by
        by_cases q : ((min k ms : Nat) : Int) < ((ms : Nat) : Int)
        · rw [decide_eq_true (show ((k : Nat) : Int) = ((min k ms : Nat) : Int) by omega)]
          simp
        · rw [decide_eq_false q]
          rfl
      rw [a1, a2]
      rfl
  · obtain ⟨x5, x6, x7, x8, x9, rfl⟩ := hI
    exact js_one (js_ret je_bl rfl)
end
end LW
end

section
set_option Elab.async false
set_option linter.all false
set_option maxRecDepth 100000
set_option maxHeartbeats 4000000
/-! Z0: the law's def, over a script that the heap holds as a list. -/
namespace LW
open PySem PySem.Spec PyProof.Rows L2 DL LC QL
section
variable {P : Program} {w : World} {K : PySem.W.Frag} {mg : Str → Option Value} {base : Heap} {f : Addr} {fd : FuncData} {k : Nat}
/-- what the law's def promises of any script -/
def spLaw (K : PySem.W.Frag) : Sp := fun vs H Q _ => ∃ (a : Addr) (ns : List Int), vs = [.ref a] ∧ SqL K H a (ns.map V.int) ∧ (∀ P ∈ tabs K, GxR.TabG H P) ∧ ∀ H', Q (.bl true) H'
theorem rt_true {H H' : Hp} {Q : VK} (q : ∀ H', Q (.bl true) H') : ∀ (r : Sl) (v : V) (H2 : Hp), r = .d (.b true) → Keep H H2 → RetV K H H2 r v → Q v H2 := fun r v H2 e kp rv => by
  subst e
  have e : v = .bl true := rv
  rw [e]
  exact q H2
theorem law_any {ps : List Str} (hl : ps.length = 1) (F : FnOk P w K mg base CX0 k f fd ps (spP K pmLw)) : FnOk P w K mg base CX0 k f fd ps (spLaw K) := by
  have sc : ∀ {H : Hp} {a : Addr} {ns : List Int} {Q : VK} {E : XK}, Scr K H a ns → (∀ P ∈ tabs K, GxR.TabG H P) → (∀ H', Q (.bl true) H') → spP K pmLw [.ref a] H Q E := fun {H a ns Q E} hs ht q =>
    ⟨ns, trivial, ht, ⟨.ref a, [], rfl, ⟨a, rfl, hs⟩, rfl⟩, fun r v H2 hr kp rv => rt_true (K := K) (H := H) (H' := H) q r v H2 hr kp rv⟩
  refine ⟨fun vs H Q E ⟨a, ns, e, hS, ht, q⟩ => by rw [e, hl]; rfl, fun A outer s H args us vs Q E hr e0 hb hv ⟨a, ns, e, hS, ht, q⟩ => ?_⟩
  subst e
  rcases hS with (h | ⟨o, h⟩) | ⟨o, its, n, h1, h2, h3⟩
  · obtain ⟨hz, its, n, rv, hget⟩ := (show ObjOk P w H s.heap a (.lst (ns.map V.int)) from e0.hok a _ h)
    let ob : Obj := { cls := .type "list", data := .seq its.toArray n }
    let H2 : Hp := upd H a (.frz ob (.lst (ns.map V.int)))
    have at2 : H2 a = some (.frz ob (.lst (ns.map V.int))) := upd_same
    have ne2 : ∀ {b}, b ≠ a → H2 b = H b := fun hb => upd_ne hb
    have nea : ∀ {b}, H b = none → b ≠ a := fun hb z => by rw [z, h] at hb; cases hb
    have hok2 : HOk P w H2 s.heap := fun b u e => by
      by_cases q2 : b = a
      · subst q2
        rw [at2] at e
        cases e
        exact ⟨hget, hz, its, n, rv, hget⟩
      · rw [ne2 q2] at e
        exact (e0.hok b u e).stay (fun _ _ _ e => e) (fun c hc => by
          rw [ne2 fun z => by rw [z, h] at hc; cases hc]
          exact hc) fun c xs hc => by
          rw [ne2 fun z => by rw [z, h] at hc; cases hc]
          exact hc
    have e2 : Env0 P w K mg base A outer s H2 := ⟨e0.frames, e0.mod, fun b o e => ⟨(e0.bs b o e).1, by rw [ne2 (nea (e0.bs b o e).2)]; exact (e0.bs b o e).2⟩, e0.bsz, e0.funs, fun b hb => by rw [ne2 (nea (e0.frf b hb))]; exact e0.frf b hb, hok2, e0.bare⟩
    have ht2 : ∀ P ∈ tabs K, GxR.TabG H2 P := fun P hP => by
      obtain ⟨ps, e, t⟩ := ht P hP
      exact ⟨ps, by rw [ne2 fun z => by rw [z, h] at e; cases e]; exact e, t⟩
    refine codeAny_mono (F.run A outer s H2 args us [.ref a] (fun v _ => v = .bl true) E hr e2 hb hv (sc (.inl ⟨ob, at2⟩) ht2 fun _ => rfl)) fun r s' hq => ?_
    cases r with
    | error e => exact hq
    | ok fl =>
      cases fl with
      | next => exact hq
      | brk => exact hq
      | cont => exact hq
      | ret u =>
        obtain ⟨v, H', os, bare, un, hok', rv', qv⟩ := hq
        have qv : v = .bl true := qv
        subst qv
        have at3 := un.frzs a _ _ at2
        have ne3 : ∀ {b}, b ≠ a → upd H' a (.lst (ns.map V.int)) b = H' b := fun hb => upd_ne hb
        refine ⟨.bl true, upd H' a (.lst (ns.map V.int)), os, bare, ⟨fun b o e n hb hx => un.keep b o e (by rw [ne2 (nea n)]; exact n) hb hx, fun b o e n hb hx => un.slot b o e (by rw [ne2 (nea n)]; exact n) hb hx, fun b o e n hx => ?_, un.there, fun b xs e => ?_, fun b o u e => ?_, fun b ps e => ?_⟩, fun b u e => ?_, rv', q _⟩
        · rw [ne3 (nea n)]
          exact un.free b o e (by rw [ne2 (nea n)]; exact n) hx
        · have hb : b ≠ a := fun z => by rw [z, h] at e; cases e
          rw [ne3 hb]
          exact un.tups b xs (by rw [ne2 hb]; exact e)
        · have hb : b ≠ a := fun z => by rw [z, h] at e; cases e
          rw [ne3 hb]
          exact un.frzs b o u (by rw [ne2 hb]; exact e)
        · have hb : b ≠ a := fun z => by rw [z, h] at e; cases e
          rw [ne3 hb]
          exact un.tbls b ps (by rw [ne2 hb]; exact e)
        · by_cases hb : b = a
          · subst hb
            rw [upd_same] at e
            cases e
            obtain ⟨_, z⟩ := (show ObjOk P w H' s'.heap b (.frz ob (.lst (ns.map V.int))) from hok' b _ at3)
            exact z
          · rw [ne3 hb] at e
            exact (hok' b u e).stay (fun _ _ _ e => e) (fun c hc => by
              rw [ne3 fun z => by rw [z, at3] at hc; cases hc]
              exact hc) fun c xs hc => by
              rw [ne3 fun z => by rw [z, at3] at hc; cases hc]
              exact hc
  · exact F.run A outer s H args us _ Q E hr e0 hb hv (sc (.inl ⟨o, h⟩) ht q)
  · exact F.run A outer s H args us _ Q E hr e0 hb hv (sc (.inr ⟨o, h1, h2, fun H' => .inr ⟨o, its, n, h1, h2, h3⟩⟩) ht q)
end
end LW
end

section
set_option Elab.async false
set_option linter.all false
set_option maxRecDepth 100000
set_option maxHeartbeats 8000000
/-! Z1: all defs behind the top keep their promises. -/
namespace LW
open PySem PySem.Spec L2 DL LC QL
section
variable {P : Program} {w : World} {K : PySem.W.Frag} {mg : Str → Option Value} {h : Heap} {f : Addr} {fd : FuncData}
theorem fun_D {x qual : Str} {st : Stmt} (F : FunD K x qual (defArgs st) (defBody st) (defScope st) [] [] f fd) : Fun K x qual st f fd := by
  obtain ⟨oc, od, dV, kV, doc, pm, an, cdv, ct, osl, e, lk, hcd, hD, _⟩ := F.ex
  rcases hD with ⟨_, z⟩ | ⟨z, _⟩
  · subst z
    exact ⟨⟨oc, od, kV, doc, pm, an, cdv, ct, osl, e, lk, hcd⟩, F.kp⟩
  · exact absurd rfl z
theorem funT_D {x : Str} {st : Stmt} (F : FunD K x x (defArgs st) (defBody st) (defScope st) [] [] (He.ga K x) fd) : FunT K x x st (He.ga K x) fd (He.cT K (x, none)).1 := by
  obtain ⟨oc, od, dV, kV, doc, pm, an, cdv, ct, osl, e, lk, hcd, hD, _⟩ := F.ex
  obtain ⟨c, rfl⟩ := He.codeIn_ref hcd
  have ec : He.codeOf K (x, none) = c := He.codeOf_eq (p := (x, none)) lk (by rw [e])
  show FunT K x x st (He.ga K x) fd (He.codeOf K (x, none))
  rw [ec]
  rcases hD with ⟨_, z⟩ | ⟨z, _⟩
  · subst z
    exact ⟨⟨oc, od, kV, doc, pm, an, ct, osl, e, lk, hcd⟩, F.kp⟩
  · exact absurd rfl z
theorem funET_D {x : Str} {st : Stmt} {dvs : List V} (F : FunD K x x (defArgs st) (defBody st) (defScope st) dvs [] (He.ga K x) fd) : FunET K x st dvs (He.ga K x) fd (He.cT K (x, none)).1 := by
  obtain ⟨oc, od, dV, kV, doc, pm, an, cdv, ct, osl, e, lk, hcd, hD, hK⟩ := F.ex
  obtain ⟨c, rfl⟩ := He.codeIn_ref hcd
  have ec : He.codeOf K (x, none) = c := He.codeOf_eq (p := (x, none)) lk (by rw [e])
  show FunET K x st dvs (He.ga K x) fd (He.codeOf K (x, none))
  rw [ec]
  exact ⟨⟨oc, od, dV, kV, doc, pm, an, ct, osl, e, lk, hcd, hD, hK⟩, F.kp⟩
theorem fun_of (D : He.SaysD LH.fa LH.fn K) {x : Str} {st : Stmt} (i : Nat) (e : LH.fn[i]? = some ⟨(x, none), x, x, defArgs st, defBody st, defScope st, [], []⟩) : ∃ fd, Fun K x x st (He.ga K x) fd := by
  obtain ⟨fd, F⟩ := D.def_ i e
  exact ⟨fd, fun_D F⟩
theorem funT_of (D : He.SaysD LH.fa LH.fn K) {x : Str} {st : Stmt} (i : Nat) (e : LH.fn[i]? = some ⟨(x, none), x, x, defArgs st, defBody st, defScope st, [], []⟩) : ∃ fd, FunT K x x st (He.ga K x) fd (He.cT K (x, none)).1 := by
  obtain ⟨fd, F⟩ := D.def_ i e
  exact ⟨fd, funT_D F⟩
theorem mth_of (D : He.SaysD LH.fa LH.fn K) {x q : Str} {st : Stmt} (i : Nat) (e : LH.fn[i]? = some ⟨("Game", some x), x, q, defArgs st, defBody st, defScope st, [], []⟩) : ∃ fd, Fun K x q st (He.ma K (He.ga K "Game") x) fd := by
  obtain ⟨fd, F⟩ := D.def_ i e
  exact ⟨fd, fun_D F⟩
theorem emptyT_ok {a : Addr} (h : LH.emptyT K a = true) : ∀ B : Hp, SqT K B a [] := fun B => by
  unfold LH.emptyT at h
  cases q : K.lookup a with
  | none =>
    rw [q] at h
    cases h
  | some o =>
    obtain ⟨oc, od, dt, osl⟩ := o
    rw [q] at h
    cases oc with
    | type c =>
      cases dt with
      | seq its n =>
        have h2 : (decide (c = "tuple") && its.isEmpty) = true := h
        rw [Bool.and_eq_true, decide_eq_true_iff, Array.isEmpty_iff] at h2
        obtain ⟨rfl, rfl⟩ := h2
        exact .inr ⟨_, #[], n, q, rfl, rfl, Nat.zero_le _, .nil⟩
      | _ => cases h
    | _ => cases dt <;> cases h
theorem tab_in {p : He.Defn} (hp : p ∈ LH.tf) : (He.cT K p).2 ∈ tabs K := List.mem_map.mpr ⟨p, hp, rfl⟩
theorem law_all (X : K.In h) (G : h.Ns mainGlobals mg) (c : He.SaysX LH.fa LH.fn [] LH.tf LH.ex w h K) :
    ∃ fd : FuncData, (∀ (s : Shared) (v : Value), BindsTo s fd ⟨[v], []⟩ [("_law_script", v)]) ∧ ∀ base : Heap, (∀ p ∈ LH.tf, GxR.TabB base mg (He.cT K p).1 (He.cT K p).2) → FnOk P w K mg base CX0 10 (He.ga K "law") fd psLw (spLaw K) := by
  have D : He.SaysD LH.fa LH.fn K := c.t.d
  obtain ⟨fd14, F14⟩ := fun_of D (x := "is_number") (st := topS 14) 0 rfl
  have m14 : mg "is_number" = some (.ref (He.ga K "is_number")) := He.glo_ok X G (D.fact 33 (f := .glo "is_number") rfl)
  obtain ⟨fd15, F15⟩ := funT_of D (x := "are_rising") (st := topS 15) 1 rfl
  have m15 : mg "are_rising" = some (.ref (He.ga K "are_rising")) := He.glo_ok X G (D.fact 34 (f := .glo "are_rising") rfl)
  obtain ⟨fd16, F16⟩ := funT_of D (x := "are_editions") (st := topS 16) 2 rfl
  have m16 : mg "are_editions" = some (.ref (He.ga K "are_editions")) := He.glo_ok X G (D.fact 35 (f := .glo "are_editions") rfl)
  obtain ⟨fd17, F17⟩ := fun_of D (x := "are_touches") (st := topS 17) 3 rfl
  have m17 : mg "are_touches" = some (.ref (He.ga K "are_touches")) := He.glo_ok X G (D.fact 36 (f := .glo "are_touches") rfl)
  obtain ⟨fd18, F18⟩ := funT_of D (x := "are_gaps") (st := topS 18) 4 rfl
  have m18 : mg "are_gaps" = some (.ref (He.ga K "are_gaps")) := He.glo_ok X G (D.fact 37 (f := .glo "are_gaps") rfl)
  obtain ⟨fd19, F19⟩ := fun_of D (x := "is_entry") (st := topS 19) 5 rfl
  have m19 : mg "is_entry" = some (.ref (He.ga K "is_entry")) := He.glo_ok X G (D.fact 38 (f := .glo "is_entry") rfl)
  obtain ⟨fd20, F20⟩ := funT_of D (x := "is_book") (st := topS 20) 6 rfl
  have m20 : mg "is_book" = some (.ref (He.ga K "is_book")) := He.glo_ok X G (D.fact 39 (f := .glo "is_book") rfl)
  obtain ⟨fd21, F21⟩ := fun_of D (x := "need_clock") (st := topS 21) 7 rfl
  have m21 : mg "need_clock" = some (.ref (He.ga K "need_clock")) := He.glo_ok X G (D.fact 40 (f := .glo "need_clock") rfl)
  obtain ⟨fd22, E22⟩ := D.def_ 8 (d := LH.g "need_tick" 22 [.int 0, .int (10 ^ 30)]) rfl
  have m22 : mg "need_tick" = some (.ref (He.ga K "need_tick")) := He.glo_ok X G (D.fact 41 (f := .glo "need_tick") rfl)
  obtain ⟨fd23, F23⟩ := fun_of D (x := "every_exchange") (st := topS 23) 9 rfl
  have m23 : mg "every_exchange" = some (.ref (He.ga K "every_exchange")) := He.glo_ok X G (D.fact 42 (f := .glo "every_exchange") rfl)
  obtain ⟨fd24, F24⟩ := fun_of D (x := "least_needed") (st := topS 24) 10 rfl
  have m24 : mg "least_needed" = some (.ref (He.ga K "least_needed")) := He.glo_ok X G (D.fact 43 (f := .glo "least_needed") rfl)
  obtain ⟨fd25, F25⟩ := fun_of D (x := "pairs_at") (st := topS 25) 11 rfl
  have m25 : mg "pairs_at" = some (.ref (He.ga K "pairs_at")) := He.glo_ok X G (D.fact 44 (f := .glo "pairs_at") rfl)
  obtain ⟨fd26, F26⟩ := fun_of D (x := "phases_of") (st := topS 26) 12 rfl
  have m26 : mg "phases_of" = some (.ref (He.ga K "phases_of")) := He.glo_ok X G (D.fact 45 (f := .glo "phases_of") rfl)
  obtain ⟨fd28, F28⟩ := fun_of D (x := "fit") (st := topS 28) 13 rfl
  have m28 : mg "fit" = some (.ref (He.ga K "fit")) := He.glo_ok X G (D.fact 46 (f := .glo "fit") rfl)
  obtain ⟨fd29, F29⟩ := fun_of D (x := "not_fitting") (st := topS 29) 14 rfl
  have m29 : mg "not_fitting" = some (.ref (He.ga K "not_fitting")) := He.glo_ok X G (D.fact 47 (f := .glo "not_fitting") rfl)
  obtain ⟨fd31, F31⟩ := fun_of D (x := "needs_of") (st := topS 31) 15 rfl
  have m31 : mg "needs_of" = some (.ref (He.ga K "needs_of")) := He.glo_ok X G (D.fact 48 (f := .glo "needs_of") rfl)
  obtain ⟨fd32, F32⟩ := fun_of D (x := "every_lean") (st := topS 32) 16 rfl
  have m32 : mg "every_lean" = some (.ref (He.ga K "every_lean")) := He.glo_ok X G (D.fact 49 (f := .glo "every_lean") rfl)
  obtain ⟨fd33, F33⟩ := fun_of D (x := "gap_from") (st := topS 33) 17 rfl
  have m33 : mg "gap_from" = some (.ref (He.ga K "gap_from")) := He.glo_ok X G (D.fact 50 (f := .glo "gap_from") rfl)
  obtain ⟨fd34, F34⟩ := fun_of D (x := "above_touches") (st := topS 34) 18 rfl
  have m34 : mg "above_touches" = some (.ref (He.ga K "above_touches")) := He.glo_ok X G (D.fact 51 (f := .glo "above_touches") rfl)
  obtain ⟨fd35, F35⟩ := fun_of D (x := "pushed") (st := topS 35) 19 rfl
  have m35 : mg "pushed" = some (.ref (He.ga K "pushed")) := He.glo_ok X G (D.fact 52 (f := .glo "pushed") rfl)
  obtain ⟨fd37, F37⟩ := funT_of D (x := "need_standing") (st := topS 37) 20 rfl
  have m37 : mg "need_standing" = some (.ref (He.ga K "need_standing")) := He.glo_ok X G (D.fact 53 (f := .glo "need_standing") rfl)
  obtain ⟨fd38, F38⟩ := fun_of D (x := "still_to_do") (st := topS 38) 21 rfl
  have m38 : mg "still_to_do" = some (.ref (He.ga K "still_to_do")) := He.glo_ok X G (D.fact 54 (f := .glo "still_to_do") rfl)
  obtain ⟨fd39, F39⟩ := fun_of D (x := "next_touch") (st := topS 39) 22 rfl
  have m39 : mg "next_touch" = some (.ref (He.ga K "next_touch")) := He.glo_ok X G (D.fact 55 (f := .glo "next_touch") rfl)
  obtain ⟨fd40, F40⟩ := fun_of D (x := "due_ticks") (st := topS 40) 23 rfl
  have m40 : mg "due_ticks" = some (.ref (He.ga K "due_ticks")) := He.glo_ok X G (D.fact 56 (f := .glo "due_ticks") rfl)
  obtain ⟨fd41, E41⟩ := D.def_ 24 (d := LH.g "rest_ticks" 41 [.adr (He.dflAt ("rest_ticks", none) 0)]) rfl
  have m41 : mg "rest_ticks" = some (.ref (He.ga K "rest_ticks")) := He.glo_ok X G (D.fact 57 (f := .glo "rest_ticks") rfl)
  obtain ⟨fd42, E42⟩ := D.def_ 25 (d := LH.g "rest_of" 42 [.adr (He.dflAt ("rest_of", none) 0)]) rfl
  have m42 : mg "rest_of" = some (.ref (He.ga K "rest_of")) := He.glo_ok X G (D.fact 58 (f := .glo "rest_of") rfl)
  obtain ⟨fd43, F43⟩ := fun_of D (x := "need_midst") (st := topS 43) 26 rfl
  have m43 : mg "need_midst" = some (.ref (He.ga K "need_midst")) := He.glo_ok X G (D.fact 59 (f := .glo "need_midst") rfl)
  obtain ⟨fd44, F44⟩ := fun_of D (x := "rest") (st := topS 44) 27 rfl
  have m44 : mg "rest" = some (.ref (He.ga K "rest")) := He.glo_ok X G (D.fact 60 (f := .glo "rest") rfl)
  obtain ⟨fd48, F48⟩ := fun_of D (x := "need_phase") (st := topS 48) 28 rfl
  have m48 : mg "need_phase" = some (.ref (He.ga K "need_phase")) := He.glo_ok X G (D.fact 61 (f := .glo "need_phase") rfl)
  obtain ⟨fd49, F49⟩ := fun_of D (x := "need_few") (st := topS 49) 29 rfl
  have m49 : mg "need_few" = some (.ref (He.ga K "need_few")) := He.glo_ok X G (D.fact 62 (f := .glo "need_few") rfl)
  obtain ⟨fd50, F50⟩ := fun_of D (x := "every_standing") (st := topS 50) 30 rfl
  have m50 : mg "every_standing" = some (.ref (He.ga K "every_standing")) := He.glo_ok X G (D.fact 63 (f := .glo "every_standing") rfl)
  obtain ⟨fd51, F51⟩ := fun_of D (x := "deeds_at") (st := topS 51) 31 rfl
  have m51 : mg "deeds_at" = some (.ref (He.ga K "deeds_at")) := He.glo_ok X G (D.fact 64 (f := .glo "deeds_at") rfl)
  obtain ⟨fd52, F52⟩ := fun_of D (x := "done") (st := topS 52) 32 rfl
  have m52 : mg "done" = some (.ref (He.ga K "done")) := He.glo_ok X G (D.fact 65 (f := .glo "done") rfl)
  obtain ⟨fd55, F55⟩ := fun_of D (x := "subsets") (st := topS 55) 33 rfl
  have m55 : mg "subsets" = some (.ref (He.ga K "subsets")) := He.glo_ok X G (D.fact 66 (f := .glo "subsets") rfl)
  obtain ⟨fd57, E57⟩ := D.def_ 39 (d := LH.g "need_game" 57 [.int 0]) rfl
  have m57 : mg "need_game" = some (.ref (He.ga K "need_game")) := He.glo_ok X G (D.fact 67 (f := .glo "need_game") rfl)
  obtain ⟨fd58, F58⟩ := fun_of D (x := "sure") (st := topS 58) 40 rfl
  have m58 : mg "sure" = some (.ref (He.ga K "sure")) := He.glo_ok X G (D.fact 68 (f := .glo "sure") rfl)
  obtain ⟨fd59, F59⟩ := fun_of D (x := "most_misses") (st := topS 59) 41 rfl
  have m59 : mg "most_misses" = some (.ref (He.ga K "most_misses")) := He.glo_ok X G (D.fact 69 (f := .glo "most_misses") rfl)
  obtain ⟨fd61, F61⟩ := fun_of D (x := "_law_taken") (st := topS 61) 42 rfl
  have m61 : mg "_law_taken" = some (.ref (He.ga K "_law_taken")) := He.glo_ok X G (D.fact 70 (f := .glo "_law_taken") rfl)
  obtain ⟨fd62, F62⟩ := fun_of D (x := "_law_low_clock") (st := topS 62) 43 rfl
  have m62 : mg "_law_low_clock" = some (.ref (He.ga K "_law_low_clock")) := He.glo_ok X G (D.fact 71 (f := .glo "_law_low_clock") rfl)
  obtain ⟨fd63, F63⟩ := fun_of D (x := "_law_few") (st := topS 63) 44 rfl
  have m63 : mg "_law_few" = some (.ref (He.ga K "_law_few")) := He.glo_ok X G (D.fact 72 (f := .glo "_law_few") rfl)
  obtain ⟨fd64, F64⟩ := fun_of D (x := "_law_needed") (st := topS 64) 45 rfl
  have m64 : mg "_law_needed" = some (.ref (He.ga K "_law_needed")) := He.glo_ok X G (D.fact 73 (f := .glo "_law_needed") rfl)
  obtain ⟨fd65, F65⟩ := fun_of D (x := "_law_bad") (st := topS 65) 46 rfl
  have m65 : mg "_law_bad" = some (.ref (He.ga K "_law_bad")) := He.glo_ok X G (D.fact 74 (f := .glo "_law_bad") rfl)
  obtain ⟨fd66, F66⟩ := fun_of D (x := "_law_has_deed") (st := topS 66) 47 rfl
  have m66 : mg "_law_has_deed" = some (.ref (He.ga K "_law_has_deed")) := He.glo_ok X G (D.fact 75 (f := .glo "_law_has_deed") rfl)
  obtain ⟨fd67, F67⟩ := fun_of D (x := "_law_sure") (st := topS 67) 48 rfl
  have m67 : mg "_law_sure" = some (.ref (He.ga K "_law_sure")) := He.glo_ok X G (D.fact 76 (f := .glo "_law_sure") rfl)
  obtain ⟨fd68, F68⟩ := fun_of D (x := "_law_alike") (st := topS 68) 49 rfl
  have m68 : mg "_law_alike" = some (.ref (He.ga K "_law_alike")) := He.glo_ok X G (D.fact 77 (f := .glo "_law_alike") rfl)
  obtain ⟨fd69, F69⟩ := fun_of D (x := "law") (st := topS 69) 50 rfl
  have m69 : mg "law" = some (.ref (He.ga K "law")) := He.glo_ok X G (D.fact 78 (f := .glo "law") rfl)
  obtain ⟨fdm0, Fm0⟩ := mth_of D (x := "__init__") (q := "Game.__init__") (st := mtS 0) 34 rfl
  obtain ⟨fdm1, Fm1⟩ := mth_of D (x := "level") (q := "Game.level") (st := mtS 1) 35 rfl
  obtain ⟨fdm2, Fm2⟩ := mth_of D (x := "next_level") (q := "Game.next_level") (st := mtS 2) 36 rfl
  obtain ⟨fdm3, Fm3⟩ := mth_of D (x := "good_deed") (q := "Game.good_deed") (st := mtS 3) 37 rfl
  obtain ⟨fdm4, Fm4⟩ := mth_of D (x := "is_good") (q := "Game.is_good") (st := mtS 4) 38 rfl
  have bl : ∀ (s : Shared) (v : Value), BindsTo s fd69 ⟨[v], []⟩ [("_law_script", v)] := fun s v => by
    obtain ⟨oc, od, kV, doc, pm, an, cdv, ct, osl, e, _⟩ := F69.ex
    subst e
    exact BindsTo.of_eq rfl
  refine ⟨fd69, bl, fun base TB => ?_⟩
  have B : Blt mg := ⟨He.free_ok X G (D.fact 0 (f := .free "isinstance") rfl), He.free_ok X G (D.fact 1 (f := .free "int") rfl), He.free_ok X G (D.fact 2 (f := .free "bool") rfl), He.free_ok X G (D.fact 3 (f := .free "tuple") rfl), He.free_ok X G (D.fact 4 (f := .free "list") rfl), He.free_ok X G (D.fact 5 (f := .free "len") rfl), He.free_ok X G (D.fact 6 (f := .free "all") rfl), He.free_ok X G (D.fact 7 (f := .free "any") rfl), He.free_ok X G (D.fact 8 (f := .free "sum") rfl), He.free_ok X G (D.fact 9 (f := .free "zip") rfl), He.free_ok X G (D.fact 10 (f := .free "min") rfl), He.free_ok X G (D.fact 11 (f := .free "max") rfl), He.free_ok X G (D.fact 12 (f := .free "sorted") rfl), He.free_ok X G (D.fact 13 (f := .free "range") rfl), He.free_ok X G (D.fact 14 (f := .free "enumerate") rfl), He.free_ok X G (D.fact 15 (f := .free "str") rfl)⟩
  obtain ⟨tMP, hMP⟩ := He.int_ok X G (D.fact 16 (f := .int "MOST_PERIOD" 12) rfl)
  obtain ⟨tMW, hMW⟩ := He.int_ok X G (D.fact 17 (f := .int "MOST_WHEELS" 12) rfl)
  obtain ⟨tME, hME⟩ := He.int_ok X G (D.fact 18 (f := .int "MOST_EDITIONS" 4) rfl)
  obtain ⟨tMX, hMX⟩ := He.int_ok X G (D.fact 19 (f := .int "MOST_EXCHANGES" 24) rfl)
  obtain ⟨tMH, hMH⟩ := He.int_ok X G (D.fact 20 (f := .int "MOST_HANDS" 12) rfl)
  obtain ⟨tMA, hMA⟩ := He.int_ok X G (D.fact 21 (f := .int "MOST_PAIRS" 4000) rfl)
  obtain ⟨tMM, hMM⟩ := He.int_ok X G (D.fact 22 (f := .int "MOST_MISSES" 12) rfl)
  have TB15 := TB ("are_rising", none) (.head _)
  have hT15 : (He.cT K ("are_rising", none)).2 ∈ tabs K := tab_in (.head _)
  have TB16 := TB ("are_editions", none) (.tail _ (.head _))
  have hT16 : (He.cT K ("are_editions", none)).2 ∈ tabs K := tab_in (.tail _ (.head _))
  have TB18 := TB ("are_gaps", none) (.tail _ (.tail _ (.head _)))
  have hT18 : (He.cT K ("are_gaps", none)).2 ∈ tabs K := tab_in (.tail _ (.tail _ (.head _)))
  have TB20 := TB ("is_book", none) (.tail _ (.tail _ (.tail _ (.head _))))
  have hT20 : (He.cT K ("is_book", none)).2 ∈ tabs K := tab_in (.tail _ (.tail _ (.tail _ (.head _))))
  have TB37 := TB ("need_standing", none) (.tail _ (.tail _ (.tail _ (.tail _ (.head _)))))
  have hT37 : (He.cT K ("need_standing", none)).2 ∈ tabs K := tab_in (.tail _ (.tail _ (.tail _ (.tail _ (.head _)))))
  have TB41 := TB ("rest_ticks", none) (.tail _ (.tail _ (.tail _ (.tail _ (.tail _ (.head _))))))
  have hT41 : (He.cT K ("rest_ticks", none)).2 ∈ tabs K := tab_in (.tail _ (.tail _ (.tail _ (.tail _ (.tail _ (.head _))))))
  have G14 : Df P w K mg base 1 "is_number" psNum pmNum := df_mk F14 m14 (F14.binds (fun _ _ _ _ _ _ us hl => match us, hl with | [_, _, _], _ => rfl)) (ok_num B F14)
  have N : NumD P w K mg base := ⟨G14, _, _, F14, m14, F14.binds (fun _ _ _ _ _ _ us hl => match us, hl with | [_, _, _], _ => rfl)⟩
  have G15 : Df P w K mg base 1 "are_rising" ["value"] pmRise := df_mk F15.fn m15 (F15.fn.binds (fun _ _ _ _ _ _ us hl => match us, hl with | [_], _ => rfl)) (ok_rise B TB15 hT15 F15)
  have G16 : Df P w K mg base 2 "are_editions" ["value"] pmEds := df_mk F16.fn m16 (F16.fn.binds (fun _ _ _ _ _ _ us hl => match us, hl with | [_], _ => rfl)) (ok_eds B N hMW hME hMX TB16 hT16 F16)
  have G17 : Df P w K mg base 3 "are_touches" ["value", "period", "wheels"] pmTch := df_mk F17 m17 (F17.binds (fun _ _ _ _ _ _ us hl => match us, hl with | [_, _, _], _ => rfl)) (ok_tch B N G15 F17)
  have G18 : Df P w K mg base 3 "are_gaps" ["value", "period", "editions"] pmGps := df_mk F18.fn m18 (F18.fn.binds (fun _ _ _ _ _ _ us hl => match us, hl with | [_, _, _], _ => rfl)) (ok_gps B N G15 TB18 hT18 F18)
  have En : EntD P w K mg base := ⟨_, _, F19, m19, F19.binds (fun _ _ _ _ _ _ us hl => match us, hl with | [_, _], _ => rfl)⟩
  have G20 : Df P w K mg base 3 "is_book" ["value", "editions"] pmBook := df_mk F20.fn m20 (F20.fn.binds (fun _ _ _ _ _ _ us hl => match us, hl with | [_, _], _ => rfl)) (ok_book B N En G15 TB20 hT20 F20)
  have G21 : Df P w K mg base 4 "need_clock" ["value"] pmNC := df_mk F21 m21 (F21.binds (fun _ _ _ _ _ _ us hl => match us, hl with | [_], _ => rfl)) (ok_nc B N hMP G16 G17 G18 G20 F21)
  obtain ⟨ds22, v22, b22⟩ := E22.binds1 (ps := psNum) 1 0 (by simp [LH.g, He.DefD.dvs]) rfl fun _ _ _ _ _ _ _ us its h1 h2 => match us, its, h1, h2 with | [_], [_, _], _, _ => ⟨_, rfl, rfl⟩
  have G22 : DfD P w K mg base 2 "need_tick" psNum pmTick [.int 0, .int (10 ^ 30)] := ⟨_, fd22, ds22, ok_tick N E22, m22, E22.kp, v22, b22⟩
  have G23 : Df P w K mg base 1 "every_exchange" ["clock"] (pmExch K) := df_mk F23 m23 (F23.binds (fun _ _ _ _ _ _ us hl => match us, hl with | [_], _ => rfl)) (ok_exch F23 B.enum B.range)
  have G24 : Df P w K mg base 1 "least_needed" psLeast pmLeast := df_mk F24 m24 (F24.binds (fun _ _ _ _ _ _ us hl => match us, hl with | [_, _, _, _], _ => rfl)) (ok_least F24 B.max)
  have G25 : Df P w K mg base 1 "pairs_at" ["clock", "phase"] (pmPairs K) := df_mk F25 m25 (F25.binds (fun _ _ _ _ _ _ us hl => match us, hl with | [_, _], _ => rfl)) (ok_pairs F25)
  have G26 : Df P w K mg base 1 "phases_of" psPhases (pmPhases K) := df_mk F26 m26 (F26.binds (fun _ _ _ _ _ _ us hl => match us, hl with | [_, _, _], _ => rfl)) (ok_phases F26 B.min B.max)
  have G28 : Df P w K mg base 2 "fit" ["clock", "standing", "pair"] pmFit := df_mk F28 m28 (F28.binds (fun _ _ _ _ _ _ us hl => match us, hl with | [_, _, _], _ => rfl)) (ok_fit F28 G24)
  have G29 : Df P w K mg base 3 "not_fitting" ["clock", "standing", "phase"] (pmNotF K) := df_mk F29 m29 (F29.binds (fun _ _ _ _ _ _ us hl => match us, hl with | [_, _, _], _ => rfl)) (ok_notF F29 G25 G28)
  have G31 : Df P w K mg base 2 "needs_of" ["clock", "exchange"] (pmNeeds K) := df_mk F31 m31 (F31.binds (fun _ _ _ _ _ _ us hl => match us, hl with | [_, _], _ => rfl)) (ok_needs B G26 G24 F31)
  have G32 : Df P w K mg base 3 "every_lean" ["clock"] (pmLean K) := df_mk F32 m32 (F32.binds (fun _ _ _ _ _ _ us hl => match us, hl with | [_], _ => rfl)) (ok_lean G23 G31 F32)
  have G33 : Df P w K mg base 1 "gap_from" ["clock", "wheel", "tick"] pmGap := df_mk F33 m33 (F33.binds (fun _ _ _ _ _ _ us hl => match us, hl with | [_, _, _], _ => rfl)) (ok_gap F33)
  have G34 : Df P w K mg base 2 "above_touches" ["clock", "one", "other", "tick"] pmAbove := df_mk F34 m34 (F34.binds (fun _ _ _ _ _ _ us hl => match us, hl with | [_, _, _, _], _ => rfl)) (ok_above F34 G26)
  have G35 : Df P w K mg base 3 "pushed" ["clock", "exchange", "other", "tick"] pmPushed := df_mk F35 m35 (F35.binds (fun _ _ _ _ _ _ us hl => match us, hl with | [_, _, _, _], _ => rfl)) (ok_pushed F35 G33 G34)
  have G37 : Df P w K mg base 2 "need_standing" nPhase pmStd := df_mk F37.fn m37 (F37.fn.binds (fun _ _ _ _ _ _ us hl => match us, hl with | [_, _], _ => rfl)) (ok_std B N TB37 hT37 F37)
  have G38 : Df P w K mg base 2 "still_to_do" ["clock", "standing"] (pmToDo K) := df_mk F38 m38 (F38.binds (fun _ _ _ _ _ _ us hl => match us, hl with | [_, _], _ => rfl)) (ok_todo G23 F38)
  have G39 : Df P w K mg base 2 "next_touch" ["clock", "one", "other", "tick"] pmNext := df_mk F39 m39 (F39.binds (fun _ _ _ _ _ _ us hl => match us, hl with | [_, _, _, _], _ => rfl)) (ok_next G26 F39)
  have G40 : Df P w K mg base 3 "due_ticks" ["clock", "tick", "standing"] pmDue := df_mk F40 m40 (F40.binds (fun _ _ _ _ _ _ us hl => match us, hl with | [_, _, _], _ => rfl)) (ok_due B G38 G24 G39 F40)
  obtain ⟨ds41, v41, b41⟩ := E41.binds1 (ps := psTks) 4 1 (by simp [LH.g, He.DefD.dvs]) rfl fun _ _ _ _ _ _ _ us its h1 h2 => match us, its, h1, h2 with | [_, _, _, _], [_], _, _ => ⟨_, rfl, rfl⟩
  have d41 : ds41 = [] := Vals.zero v41
  subst d41
  have G41 : Df P w K mg base 4 "rest_ticks" psTks (pmTks K) := ⟨_, fd41, ok_tks B G38 G33 G32 G40 G35 TB41 hT41 (funET_D (st := topS 41) E41), m41, E41.kp, b41⟩
  obtain ⟨ds42, v42, b42⟩ := E42.binds1 (ps := psTks) 3 0 (by simp [LH.g, He.DefD.dvs]) rfl fun _ _ _ _ _ _ _ us its h1 h2 => match us, its, h1, h2 with | [_, _, _], [_], _, _ => ⟨_, rfl, rfl⟩
  have G42 : DfD P w K mg base 5 "rest_of" psTks (pmRO K) [.ref (He.dflAt ("rest_of", none) 0 K)] := ⟨_, fd42, ds42, ok_ro B G41 E42, m42, E42.kp, v42, b42⟩
  have G43 : Df P w K mg base 5 "need_midst" nMid pmMid := df_mk F43 m43 (F43.binds (fun _ _ _ _ _ _ us hl => match us, hl with | [_, _, _], _ => rfl)) (ok_mid G21 G22 G37 F43)
  have G44 : Df P w K mg base 6 "rest" nMid pmRest := df_mk F44 m44 (F44.binds (fun _ _ _ _ _ _ us hl => match us, hl with | [_, _, _], _ => rfl)) (ok_rest (emptyT_ok c.more) G43 G42 F44)
  have G48 : Df P w K mg base 2 "need_phase" nPhase pmPhase := df_mk F48 m48 (F48.binds (fun _ _ _ _ _ _ us hl => match us, hl with | [_, _], _ => rfl)) (ok_phase N F48)
  have G49 : Df P w K mg base 1 "need_few" ["clock"] pmFew := df_mk F49 m49 (F49.binds (fun _ _ _ _ _ _ us hl => match us, hl with | [_], _ => rfl)) (ok_few hMA F49)
  have G50 : Df P w K mg base 1 "every_standing" ["clock"] (pmSts K) := df_mk F50 m50 (F50.binds (fun _ _ _ _ _ _ us hl => match us, hl with | [_], _ => rfl)) (ok_sts B F50)
  have G51 : Df P w K mg base 1 "deeds_at" ["clock", "phase", "standing", "hands"] (pmDeeds K) := df_mk F51 m51 (F51.binds (fun _ _ _ _ _ _ us hl => match us, hl with | [_, _, _, _], _ => rfl)) (ok_deeds B F51)
  have G52 : Df P w K mg base 1 "done" ["standing", "deed"] pmDone := df_mk F52 m52 (F52.binds (fun _ _ _ _ _ _ us hl => match us, hl with | [_, _], _ => rfl)) (ok_done B F52)
  have G55 : Df P w K mg base 1 "subsets" ["deed"] (pmSub K) := df_mk F55 m55 (F55.binds (fun _ _ _ _ _ _ us hl => match us, hl with | [_], _ => rfl)) (ok_sub F55)
  have gk : GK K (He.ga K "Game") := ⟨He.cls_ok (D.fact 24 (f := .cls "Game") rfl), He.noat_ok (D.fact 25 (f := .noat "Game" "clock") rfl), He.noat_ok (D.fact 26 (f := .noat "Game" "levels") rfl), He.noat_ok (D.fact 27 (f := .noat "Game" "pairs") rfl)⟩
  have M4 : MtK P w K mg base (He.ga K "Game") 4 "is_good" psIsG (pmIsG P w K (He.ga K "Game")) := ⟨⟨_, fdm4, ok_isG B gk G55 G52 G29 Fm4, He.meth_ok (D.fact 31 (f := .meth "Game" "is_good") rfl), Fm4.binds (fun _ _ _ _ _ _ us hl => match us, hl with | [_, _, _, _], _ => rfl)⟩⟩
  have M3 : MtK P w K mg base (He.ga K "Game") 5 "good_deed" psGD (pmGD P w K (He.ga K "Game")) := ⟨⟨_, fdm3, ok_gd B gk hMH G51 M4 Fm3, He.meth_ok (D.fact 30 (f := .meth "Game" "good_deed") rfl), Fm3.binds (fun _ _ _ _ _ _ us hl => match us, hl with | [_, _, _], _ => rfl)⟩⟩
  have M2 : MtK P w K mg base (He.ga K "Game") 6 "next_level" psNL (pmNL P w K (He.ga K "Game")) := ⟨⟨_, fdm2, ok_nl B gk M3 Fm2, He.meth_ok (D.fact 29 (f := .meth "Game" "next_level") rfl), Fm2.binds (fun _ _ _ _ _ _ us hl => match us, hl with | [_], _ => rfl)⟩⟩
  have GM : GmK P w K mg base (He.ga K "Game") := ⟨gk, He.glo_ok X G (D.fact 23 (f := .glo "Game") rfl), ⟨_, fdm0, He.mkr_ok (D.fact 32 (f := .mkr "Game") rfl), ok_in B gk G50 Fm0, Fm0.binds (fun _ _ _ _ _ _ us hl => match us, hl with | [_, _], _ => rfl)⟩, ⟨_, fdm1, He.meth_ok (D.fact 28 (f := .meth "Game" "level") rfl), ok_lv B gk M2 Fm1, Fm1.binds (fun _ _ _ _ _ _ us hl => match us, hl with | [_, _], _ => rfl)⟩⟩
  obtain ⟨ds57, v57, b57⟩ := E57.binds1 (ps := nGame) 4 1 (by simp [LH.g, He.DefD.dvs]) rfl fun _ _ _ _ _ _ _ us its h1 h2 => match us, its, h1, h2 with | [_, _, _, _], [_], _, _ => ⟨_, rfl, rfl⟩
  have d57 : ds57 = [] := Vals.zero v57
  subst d57
  have ok57 : FnOk P w K mg base CX0 5 (He.ga K "need_game") fd57 nGame (spP K pmGame) := ok_game N hMM G21 G48 G37 G49 E57
  have G57 : Df P w K mg base 5 "need_game" nGame pmGame := ⟨_, fd57, ok57, m57, E57.kp, b57⟩
  obtain ⟨de57, u57, c57⟩ := E57.binds1 (ps := nGame) 3 0 (by simp [LH.g, He.DefD.dvs]) rfl fun _ _ _ _ _ _ _ us its h1 h2 => match us, its, h1, h2 with | [_, _, _], [_], _, _ => ⟨_, rfl, rfl⟩
  have D57 : DfD P w K mg base 5 "need_game" nGame pmGame [.int 0] := ⟨_, fd57, de57, ok57, m57, E57.kp, u57, c57⟩
  have G58 : Df P w K mg base 9 "sure" nGame pmSure := df_mk F58 m58 (F58.binds (fun _ _ _ _ _ _ us hl => match us, hl with | [_, _, _, _], _ => rfl)) (ok_sure GM G57 F58)
  have G59 : Df P w K mg base 9 "most_misses" psMost pmMost := df_mk F59 m59 (F59.binds (fun _ _ _ _ _ _ us hl => match us, hl with | [_, _, _], _ => rfl)) (ok_most B hMM GM D57 F59)
  have G61 : DfM P w K mg base 1 "_law_taken" psTk (pmTk K) := ⟨_, fd61, ok_tk B F61, m61, F61.kp, F61.binds (fun _ _ _ _ _ _ us hl => match us, hl with | [_, _], _ => rfl)⟩
  have G62 : DfM P w K mg base 2 "_law_low_clock" psLC (pmLC K) := ⟨_, fd62, ok_lc B G61 F62, m62, F62.kp, F62.binds (fun _ _ _ _ _ _ us hl => match us, hl with | [_, _, _, _, _], _ => rfl)⟩
  have G63 : DfM P w K mg base 3 "_law_few" psFw (pmFw K) := ⟨_, fd63, ok_fw B G61 G62 F63, m63, F63.kp, F63.binds (fun _ _ _ _ _ _ us hl => match us, hl with | [_], _ => rfl)⟩
  have G64 : Df P w K mg base 1 "_law_needed" psLN pmLN := df_mk F64 m64 (F64.binds (fun _ _ _ _ _ _ us hl => match us, hl with | [_, _, _, _], _ => rfl)) (ok_ln F64)
  have G65 : Df P w K mg base 2 "_law_bad" psLB (pmLB K) := df_mk F65 m65 (F65.binds (fun _ _ _ _ _ _ us hl => match us, hl with | [_, _, _], _ => rfl)) (ok_lb B G64 F65)
  have G66 : Df P w K mg base 3 "_law_has_deed" psHD (pmHD P w K) := df_mk F66 m66 (F66.binds (fun _ _ _ _ _ _ us hl => match us, hl with | [_, _, _, _, _], _ => rfl)) (ok_hd B G65 F66)
  have G67 : Df P w K mg base 4 "_law_sure" psSu (pmSu P w K) := df_mk F67 m67 (F67.binds (fun _ _ _ _ _ _ us hl => match us, hl with | [_, _], _ => rfl)) (ok_su B G66 F67)
  have G68 : Df P w K mg base 1 "_law_alike" psLA pmLA := df_mk F68 m68 (F68.binds (fun _ _ _ _ _ _ us hl => match us, hl with | [_, _], _ => rfl)) (ok_la B F68)
  exact law_any rfl (ok_lw B G61 G63 G67 G68 G58 G44 G59 F69)
end
end LW
end

section
set_option Elab.async false
set_option linter.all false
set_option maxRecDepth 100000
set_option maxHeartbeats 0
/-! Z2: the end. -/
open PySem PySem.W PySem.Calls PyProof.Rows
theorem PySem.Challenge.cw_livingclock_k28_whole_misses_holds : PySem.Challenge.rw_livingclock_k28_whole_misses.Holds := by
  w_on; o_law
  refine HandSHeadRun.head_any (r := OpenLaw.row PySem.Challenge.rw_livingclock_k28_whole_misses) (q := view (OpenLaw.row PySem.Challenge.rw_livingclock_k28_whole_misses).prog [69]) (H := LH.hk) (ob := LH.ob) (M := 4000) (loose := LH.loose) (d := HandSHeadRun.topDef (OpenLaw.row PySem.Challenge.rw_livingclock_k28_whole_misses).prog 69) (kwd := []) LH.ob_eq
    (by kernel_rfl) (fun s => by kernel_rfl) LH.run (by kernel_rfl) (by kernel_rfl) (by kernel_rfl) (by rfl) (by first | assumption | decide +kernel) (by decide +kernel) ⟨rfl, rfl, rfl, rfl, rfl, by decide +kernel⟩ ?hw ?hc
  case hw => w_witness2
  case hc =>
    refine LamX.walk_ofTsE (l := PySem.Challenge.rw_livingclock_k28_whole_misses) (n := 63) (k := 10) (x := "_law_script") (CX := fun _ => L2.CX0) rfl (by decide) (by kernel_rfl) ⟨rfl, by decide, by decide⟩ ?F (fun _ _ _ _ _ z => z)
    intro w mg fa h Y G hmg0
    obtain ⟨K, KX, c⟩ := Y
    have hmg : mg ("law" : PySem.Str) = some (.ref fa) := by
      have e : (HandSHeadRun.topDef (OpenLaw.row PySem.Challenge.rw_livingclock_k28_whole_misses).prog 69).name = ("law" : PySem.Str) := by kernel_rfl
      rw [← e]
      exact hmg0
    have e := hmg.symm.trans (He.glo_ok KX G (c.t.d.fact 78 (f := .glo "law") rfl))
    cases e
    obtain ⟨fd, hb, hF⟩ := LW.law_all (P := (PySem.Challenge.rw_livingclock_k28_whole_misses).prog) (w := w) KX G c
    have un : ∀ {p : Addr × Addr}, p ∈ LH.tf.map (He.cT K) → ∃ q ∈ LH.tf, He.cT K q = p := fun hp => List.mem_map.mp hp
    refine ⟨K, KX, fd, LH.tf.map (He.cT K), LW.spLaw K, fun p hp => ?_, fun p hp => ?_, fun p hp => ?_, hb, fun H a ns _ _ hT hS => ⟨a, ns, rfl, hS, fun P hP => ?_, fun _ => rfl⟩, fun base _ _ TB => hF base fun p hp => ?_⟩
    · obtain ⟨q, hq, rfl⟩ := un hp
      exact c.empty q hq
    · obtain ⟨q, hq, rfl⟩ := un hp
      exact c.out q hq
    · obtain ⟨q, hq, rfl⟩ := un hp
      exact PySem.W.codeHd_of_K KX (c.hd q hq)
    · obtain ⟨q, hq, rfl⟩ := List.mem_map.mp hP
      exact ⟨#[], hT (He.cT K q) (List.mem_map.mpr ⟨q, hq, rfl⟩), trivial⟩
    · have t := TB (He.cT K p) (List.mem_map.mpr ⟨p, hp, rfl⟩)
      exact ⟨t.code, t.bm, t.gP⟩
end
