import PyProof.Rows.All
import HandS.ExcOwn
import HandS.ExcField
import HandS.ExcIs
import HandS.ExcInit
import PySem.Challenge.RW_relaybanks_k82_across_askings
import Wide.All
import OpenK.AllK
import Wide.FinOn
import HandS.ForMost
import HandS.AnyAll
import HandS.IsInst
import HandS.StrMore
import HandS.Flow
import HandS.Defaults
import HandS.EndTab
import HandS.HeadHook4
import HandS.HeadWalk
import HandS.Head2
import HandS.NoneIn
import HandS.Lambda
import KE.KeyNested
import PyProof.DictRoadsH
import HandS.Deep
import KE.SortData
import KE.GoesEnum
import HandS.Star
import HandS.Gcd
import KE.DataMinMax
import KE.KTupSum
import HandS.Style
import PyProof.GenCompD
import KE.DataFind
import HandS.GenList
import HandS.More
import HandS.TupLen
import HandS.Iter
import HandS.Conv
import KE.KDictDisplayH
import HandS.TupSets
import HandS.DictComp
import KE.KDictPairs
import HandS.SetFor
import HandS.Strs
import HandS.Text
import HandS.Wide
import KE.SortKeyHeap
import HandS.SortKw
import HandS.SetBool
import KE.KExcIs
import KE.KIsAll
set_option Elab.async false
set_option linter.all false
set_option maxRecDepth 100000
set_option maxHeartbeats 4000000
noncomputable section
namespace Mi.Imp
open PySem PySem.W PySem.Calls PyProof.Rows HandSHeadRun
def impF (st : SharedT → Thread → Option (SharedT × Thread)) : Nat → SharedT → Thread → Option SharedT
  | 0, _, _ => none
  | m + 1, s, t => match t.atExitBegin with
    | some [] => some s
    | some (_ :: _) => none
    | none => match st s t with
      | some (s', t') => frS s' fun s' => impF st m s' t'
      | none => none
theorem impF_ok {tb : String → Option Builtin} {p : Program} {w : World} : ∀ {m : Nat} {s s' : SharedT} {t : Thread}, impF (stepT (denote tb) p w) m s t = some s' → importEnds tb p w m s.abs t = some s'.abs
  | 0, _, _, _, h => by cases h
  | m + 1, s, s', t, h => by
    have h1 : (match t.atExitBegin with
      | some [] => some s
      | some (_ :: _) => none
      | none => match stepT (denote tb) p w s t with
        | some (s', t') => frS s' fun s' => impF (stepT (denote tb) p w) m s' t'
        | none => none) = some s' := h
    unfold importEnds
    cases ht : t.atExitBegin with
    | some l =>
      rw [ht] at h1
      cases l with
      | nil => cases h1; rfl
      | cons a l => cases h1
    | none =>
      rw [ht] at h1
      have h2 : (match stepT (denote tb) p w s t with
        | some (s', t') => frS s' fun s' => impF (stepT (denote tb) p w) m s' t'
        | none => none) = some s' := h1
      cases hs : stepT (denote tb) p w s t with
      | none =>
        rw [hs] at h2
        cases h2
      | some r =>
        obtain ⟨s2, t2⟩ := r
        rw [hs] at h2
        have h3 : (frS s2 fun s' => impF (stepT (denote tb) p w) m s' t2) = some s' := h2
        rw [frS_eq] at h3
        have q := impF_ok h3
        show (match step (denote tb) p w s.abs t with
          | .go s' t' => importEnds tb p w m s' t'
          | .halt _ _ => none) = some s'.abs
        rw [stepT_spec hs]
        exact q
def startT (p : Program) : SharedT := ⟨.nil, 0, ({} : Life), #[], {}, 1, { stdin := p.given.stdin.toArray }⟩
theorem startT_abs (p : Program) : (startT p).abs = (start p).1 := rfl
def endM (so st : SharedT → Thread → Option (SharedT × Thread)) (M0 M : Nat) (p : Program) : Option (Shared × SharedT) :=
  (impF so M0 (startT (opening p)) (start (opening p)).2).bind fun z => (fenceModules? p z.abs).bind fun s0 => match putAll s0.heap.objs.toList .nil 0 with
    | some (t, n) => (frNat n fun n0 => goF st n0 (s0.heap.nsMap mainGlobals "__annotations__") M ⟨t, n0, s0.heap.life, s0.gens, s0.drawn, s0.toks, s0.os⟩ (topStub p)).map fun s1 => (s0, s1)
    | none => none
theorem left_imp {p q : Program} {loose : List Str} {Xt : Shared → Bool} {α : Type} {Yf : Shared → α} {Ya : World → α} {M0 M : Nat}
    (run : ∀ (w : World), (endM (stepT (denote treeTable) (opening p) w) (stepT (denote treeTable) p w) M0 M p).map (fun z => ((z.1.heap.isNs mainGlobals && z.1.gens.size == 0) && looksF p z.1.heap z.2.abs, openSeen q loose (importedModules p.main.body) Xt true z.2.abs, Yf z.2.abs)) = some (true, openGood q loose, Ya w)) :
    LeftO p q loose Xt Yf Ya (M0 + M) true := fun w => by
  obtain ⟨⟨s0, s1⟩, hs, hv⟩ := Option.map_eq_some_iff.mp (run w)
  obtain ⟨l1, l2, l3⟩ : _ ∧ _ ∧ _ := by simpa only [Prod.mk.injEq] using hv
  unfold endM at hs
  obtain ⟨z, hz, hs⟩ := Option.bind_eq_some_iff.mp hs
  obtain ⟨s0', h0, hs⟩ := Option.bind_eq_some_iff.mp hs
  cases e : putAll s0'.heap.objs.toList .nil 0 with
  | none => rw [e] at hs; cases hs
  | some r =>
    obtain ⟨t, n⟩ := r
    rw [e] at hs
    have hs : (frNat n fun n0 => goF (stepT (denote treeTable) p w) n0 (s0'.heap.nsMap mainGlobals "__annotations__") M ⟨t, n0, s0'.heap.life, s0'.gens, s0'.drawn, s0'.toks, s0'.os⟩ (topStub p)).map (fun s1 => (s0', s1)) = some (s0, s1) := hs
    obtain ⟨s1', hg, he⟩ := Option.map_eq_some_iff.mp hs
    obtain ⟨rfl, rfl⟩ : s0' = s0 ∧ s1' = s1 := by simpa only [Prod.mk.injEq] using he
    rw [frNat_eq] at hg
    have q := goF_ok hg
    have eh := putAll_heap e
    have en : s0'.heap.objs.size = n := by
      rw [← eh]
      exact absHeap_size t n _
    have eb : (⟨t, n, s0'.heap.life, s0'.gens, s0'.drawn, s0'.toks, s0'.os⟩ : SharedT).abs = s0' := by
      show (⟨absHeap t n s0'.heap.life, s0'.gens, s0'.drawn, s0'.toks, s0'.os⟩ : Shared) = _
      rw [eh]
    rw [eb, ← en] at q
    obtain ⟨c1, c2⟩ := Bool.and_eq_true_iff.mp l1
    have r := topRun_mono M0 _ _ _ _ q
    rw [Nat.add_comm M M0] at r
    have i := importEnds_mono M _ _ _ _ (impF_ok hz)
    rw [startT_abs] at i
    have tf : topFrom treeTable p w (M0 + M) s0' = some s1'.abs := by
      unfold topFrom
      rw [c1]
      show (topRun treeTable p w s0'.heap.objs.size (s0'.heap.nsMap mainGlobals "__annotations__") (M0 + M) s0' (topStub p)).bind _ = _
      rw [r]
      show (match staticsOk (importedModules p.main.body) s0'.heap s1'.abs.heap && namesBound p s1'.abs.heap && gensDone s1'.abs && laidKept s0'.heap s1'.abs.heap with | true => some s1'.abs | false => none) = _
      have c2' : (staticsOk (importedModules p.main.body) s0'.heap s1'.abs.heap && namesBound p s1'.abs.heap && gensDone s1'.abs && laidKept s0'.heap s1'.abs.heap) = true := c2
      rw [c2']
    unfold openEnds fencedOpening
    rw [i]
    show ((fenceModules? p z.abs).bind _).map _ = _
    rw [h0]
    show (topFrom treeTable p w (M0 + M) s0').map _ = _
    rw [tf]
    exact congrArg some (Prod.ext l2 l3)
def RunM (r : OpenRow) (q : Program) (H : Hook) (ob : SharedT → H.α) (M0 M : Nat) (loose : List PySem.Str) (w : World) : Prop :=
  (endM (stepQ (denQ tabQ) (opening r.prog) w) (stepQ (denQ tabQ) r.prog w) M0 M r.prog).map (fun z => ((z.1.heap.isNs mainGlobals && z.1.gens.size == 0) && looksF r.prog z.1.heap z.2.abs, seenQ q loose (importedModules r.prog.main.body) (fun s => xlAt q [] s && recOk r.toRowW.records s) z.2.abs, ob z.2)) = some (true, openGood q loose, H.val w)
theorem head_imp {r : OpenRow} {q : Program} {H : Hook} {ob : SharedT → H.α} {M0 M : Nat} {loose : List PySem.Str} {d : DefRec} {kwd : List (PySem.Str × PySem.Expr)} (ho : ∀ s : SharedT, ob s = H.obs s.abs)
    (run : ∀ w, RunM r q H ob M0 M loose w)
    (hdef : defOf q r.name = some (d, kwd)) (hp : r.prog.theDef r.name = some (d.params, d.body, d.scope)) (hk : kwWritten? d.params.kwonlyargs d.params.kw_defaults = some kwd)
    (hwr : (!r.writes || r.records.isEmpty) = true) (k1 : r.wellSaid = true) (ok : (chainsOk q && opensWell r.prog && (frees r.toRowW && r.within.isEmpty)) = true) (hb : r.prog.bare) (hw : r.toRowW.promised)
    (call : WalkO q loose (XL q []) H.says r.toRowW d kwd fun f vs => PySem.call f vs) : r.Holds := by
  have left : LeftO r.prog q loose (fun s => xlAt q [] s && recOk r.toRowW.records s) H.obs H.val (M0 + M) true :=
    left_imp (M0 := M0) (M := M) fun w => by
      have z := run w
      unfold RunM at z
      have eo : ob = fun s => H.obs s.abs := funext ho
      rw [eo] at z
      rw [stepQ_eq, denQ_eq, tabQ_eq]
      simp only [seenQ_eq]
      exact z
  exact holds_open (r := r) (q := q) (loose := loose) (XP := XL q []) (YP := H.says) (d := d) (kwd := kwd) left H.of H.keeps (fun s z => xl_of s (Bool.and_eq_true_iff.mp z).1) XL.keeps hdef hp hk (fun s z => recFacts_of (Bool.and_eq_true_iff.mp z).2) hwr k1 ok hb hw call
end Mi.Imp
namespace Mi
end Mi
namespace Mi
open PySem PySem.Spec PyProof.Rows L2 He
def xNm : Nat → Str
  | 0 => "BadMemory" | 1 => "BadInput" | 2 => "BadSpan" | 3 => "BadRelay" | 4 => "BadRelays" | 5 => "BadSign" | 6 => "BadTurns" | 7 => "BadInputs" | 8 => "BadPair" | 9 => "BadKnowledge"
  | 10 => "BadBank" | 11 => "TooLarge" | 12 => "BadRatio" | 13 => "BadLoop" | 14 => "BadTable" | 15 => "BadTellings" | 16 => "BadSlack" | 17 => "BadNet" | 18 => "BadHeights" | 19 => "BadHeight"
  | 20 => "BadChance" | 21 => "NotText" | 22 => "InvalidText" | 23 => "TooLong" | 24 => "BadName" | 25 => "NoName" | 26 => "NothingToUndo" | 27 => "BadCount" | 28 => "BadCycles" | 29 => "BadRates"
  | 30 => "BadGains" | 31 => "BadGoals" | 32 => "BadLetter" | 33 => "TooMany" | _ => "RelayError"
def xFn : Nat → Str
  | 22 => "place" | 33 => "most" | _ => "index"
end Mi
namespace Mi
open PySem PySem.Spec PyProof.Rows L2 GxR
def top (i : Nat) : Stmt := PySem.Challenge.pw_relaybanks_k82_across_askings.main.body.getD i (.Pass ⟨0, 0, 0, 0⟩)
def fnD (nm : Str) (i : Nat) : He.DefD := ⟨(nm, none), nm, nm, defArgs (top i), defBody (top i), defScope (top i), [], []⟩
def fns : List He.DefD := [fnD "_law_taken" 45, fnD "is_in" 9, fnD "need_span" 12, fnD "is_input" 10, fnD "need_asked" 37, fnD "lead" 38, fnD "ratio" 22, fnD "over" 25, fnD "minus" 23, fnD "by" 24, fnD "step" 13, fnD "behind" 14, fnD "place" 28, fnD "holds" 29, fnD "all_relays" 27, fnD "row_of" 32, fnD "basis_of" 40, fnD "asked_rank" 41, fnD "tells_all" 42, fnD "all_memories" 15, fnD "on_in" 30, fnD "reduced_by" 39, fnD "way_from_all" 34, fnD "way_of" 35, fnD "next_asking" 43, fnD "_law_pick" 46, fnD "_law_steps" 52, fnD "need_input" 11, fnD "settled" 18, fnD "reduce" 19, fnD "reduced" 20, fnD "law" 53]
def fas : List He.Fa := [.glo "_law_taken", .glo "is_in", .glo "need_span", .glo "is_input", .glo "need_asked", .glo "lead", .glo "ratio", .glo "over", .glo "minus", .glo "by", .glo "step", .glo "behind", .glo "place", .glo "holds", .glo "all_relays", .glo "row_of", .glo "basis_of", .glo "asked_rank", .glo "tells_all", .glo "all_memories", .glo "on_in", .glo "reduced_by", .glo "way_from_all", .glo "way_of", .glo "next_asking", .glo "_law_pick", .glo "_law_steps", .glo "need_input", .glo "settled", .glo "reduce", .glo "reduced", .glo "law", .free "all", .free "bool", .free "enumerate", .free "int", .free "isinstance", .free "len", .free "list", .free "min", .free "range", .free "str", .free "tuple", .free "zip", .int "MOST_INPUTS" 20, .int "MOST_SPAN" 9, .int "MOST_STEPS" 200]
def ls : List (He.Defn × Str) := []
def tfs : List He.Defn := [("is_input", none)]
def exK (K : PySem.W.Frag) : Bool := (He.eqO (PySem.W.nsIn K mainGlobals "gcd") (some (some (.builtin "math.gcd"))))
abbrev R : PySem.W.OpenRow := PySem.W.OpenLaw.row PySem.Challenge.rw_relaybanks_k82_across_askings
abbrev hk : PySem.W.Hook := He.hookX 4 fas fns [] tfs exK
def ob (s : PySem.W.SharedT) : He.AlX := He.obsX 4 fas fns [] tfs exK (HandSHeadRun.getT s)
theorem ob_eq (s : PySem.W.SharedT) : ob s = hk.obs s.abs := He.obsX_eq (HandSHeadRun.getT_eq s)
theorem run (w : World) : Mi.Imp.RunM R (PySem.W.view R.prog [53]) hk ob 4000 4000 (("gcd" : Str) :: ("RelayError" : Str) :: ("BadInput" : Str) :: ("BadSpan" : Str) :: ("BadInputs" : Str) :: ("MOST_SPAN" : Str) :: ("MOST_STEPS" : Str) :: ("is_in" : Str) :: ("is_input" : Str) :: ("need_input" : Str) :: ("need_span" : Str) :: ("step" : Str) :: ("behind" : Str) :: ("all_memories" : Str) :: ("MOST_INPUTS" : Str) :: ("settled" : Str) :: ("reduce" : Str) :: ("reduced" : Str) :: ("ratio" : Str) :: ("minus" : Str) :: ("by" : Str) :: ("over" : Str) :: ("all_relays" : Str) :: ("place" : Str) :: ("holds" : Str) :: ("on_in" : Str) :: ("row_of" : Str) :: ("way_from_all" : Str) :: ("way_of" : Str) :: ("need_asked" : Str) :: ("lead" : Str) :: ("reduced_by" : Str) :: ("basis_of" : Str) :: ("asked_rank" : Str) :: ("tells_all" : Str) :: ("next_asking" : Str) :: ("_law_taken" : Str) :: ("_law_pick" : Str) :: ("_law_alike" : Str) :: ("_law_step" : Str) :: ("_law_behind" : Str) :: ("_law_all" : Str) :: ("_law_memory" : Str) :: ("_law_steps" : Str) :: []) w := by
  unfold Mi.Imp.RunM
  kernel_rfl
end Mi
namespace Mi
open PySem PySem.Spec PyProof.Rows L2 GxR
abbrev Frag := PySem.W.Frag
abbrev St := L2.St
structure FragW where
  f : Frag
  P : Program
  w : World
instance : Coe FragW Frag := ⟨FragW.f⟩
inductive D where
  | non
  | bl (b : Bool)
  | int (i : Int)
  | str (s : List Nat)
  | tup (l : List D)
  | lst (l : List D)
  | dic (ks vs : List D)
  | scr (ns : List Int)
  | fn (nm : Str)
  | ptp (l : List D)
  | ndc (ks vs : List D)
deriving Inhabited
def keyD : Key → D
  | .inl i => .int i
  | .inr x => .str x.cps.toList
mutual
def nkey : D → Option NestedKey
  | .non => some .none
  | .bl b => some (.num (if b = true then 1 else 0))
  | .int i => some (.num i)
  | .str s => some (.text ⟨s.toArray⟩)
  | .tup l => (match nkeys l with
    | some ks => some (.tup ks)
    | none => none)
  | _ => none
def nkeys : List D → Option (List NestedKey)
  | [] => some []
  | d :: ds => (match nkey d with
    | some k => (match nkeys ds with
      | some ks => some (k :: ks)
      | none => none)
    | none => none)
end
def NObj (P : Program) (w : World) (a : Addr) (xs : List (NestedKey × Addr × Value)) : Heap → Prop := fun h =>
  ∃ (o : Obj) (es : Array DictEntry) (ep : Nat), h.get? a = some o ∧ o.ExactDict ∧ o.data = .dict es ep ∧ es.toList = xs.map (entryOfKey (nestedKind P w)) ∧ (xs.map (·.1)).Nodup ∧ (a == sysModules) = false
mutual
inductive Rep (K : FragW) (G : Hp) : V → D → Prop
  | non : Rep K G .non .non
  | bl (b : Bool) : Rep K G (.bl b) (.bl b)
  | int (i : Int) : Rep K G (.int i) (.int i)
  | str (s : List Nat) : Rep K G (.str ⟨s.toArray⟩) (.str s)
  | tup {a : Addr} {xs : List V} {ds : List D} : G a = some (.tup xs) → RepL K G xs ds → Rep K G (.ref a) (.tup ds)
  | lst {a : Addr} {xs : List V} {ds : List D} : G a = some (.lst xs) → RepL K G xs ds → Rep K G (.ref a) (.lst ds)
  | scr {a : Addr} {ns : List Int} : SqL K G a (ns.map V.int) → Rep K G (.ref a) (.scr ns)
  | fn (nm : Str) : Rep K G (.ref (He.ga K nm)) (.fn nm)
  | ptp {a : Addr} {o : Obj} {xs : List V} {ds : List D} : G a = some (.frz o (.tup xs)) → o.dict = none → RepL K G xs ds → Rep K G (.ref a) (.ptp ds)
  | dK {a : Addr} {kvs : List (Key × V)} {ks vs : List D} : Rd G a (.dK kvs) → ks = kvs.map (fun q => keyD q.1) → RepL K G (kvs.map (·.2)) vs → Rep K G (.ref a) (.dic ks vs)
  | dT {a : Addr} {kvs : List (List Key × V)} {ks vs : List D} : Rd G a (.dT kvs) → ks = .non :: kvs.map (fun q => D.tup (q.1.map keyD)) → RepL K G (kvs.map (·.2)) vs → Rep K G (.ref a) (.dic ks vs)
  | ndc {a p : Addr} {xs : List (NestedKey × Addr × Value)} {us ws : List V} {ks vs : List D} : Rd G a (.ext (NObj K.P K.w p xs)) → us = xs.map (fun q => V.ref q.2.1) → RepL K G us ks → ks.map nkey = xs.map (fun q => some q.1) → Vals ws (xs.map (·.2.2)) → RepL K G ws vs → Rep K G (.ref a) (.ndc ks vs)
inductive RepL (K : FragW) (G : Hp) : List V → List D → Prop
  | nil : RepL K G [] []
  | cons {v : V} {vs : List V} {d : D} {ds : List D} : Rep K G v d → RepL K G vs ds → RepL K G (v :: vs) (d :: ds)
end
inductive RepO (K : FragW) (G : Hp) : HO → D → Prop
  | lst {xs : List V} {ds : List D} : RepL K G xs ds → RepO K G (.lst xs) (.lst ds)
  | dK {kvs : List (Key × V)} {ks vs : List D} : ks = kvs.map (fun q => keyD q.1) → RepL K G (kvs.map (·.2)) vs → RepO K G (.dK kvs) (.dic ks vs)
  | dT {kvs : List (List Key × V)} {ks vs : List D} : ks = .non :: kvs.map (fun q => D.tup (q.1.map keyD)) → RepL K G (kvs.map (·.2)) vs → RepO K G (.dT kvs) (.dic ks vs)
  | ndc {p : Addr} {xs : List (NestedKey × Addr × Value)} {us ws : List V} {ks vs : List D} : us = xs.map (fun q => V.ref q.2.1) → RepL K G us ks → ks.map nkey = xs.map (fun q => some q.1) → Vals ws (xs.map (·.2.2)) → RepL K G ws vs → RepO K G (.ext (NObj K.P K.w p xs)) (.ndc ks vs)
section
variable {K : FragW} {G G' H H' : Hp}
theorem _root_.L2.Same.rd {a : Addr} {u : HO} (s : Same G G') (h : Rd G a u) : Rd G' a u := by
  rcases h with h | ⟨o, h⟩
  · exact .inl (s _ _ h)
  · exact .inr ⟨o, s _ _ h⟩
theorem _root_.L2.Same.seqT {a : Addr} {xs : List V} (s : Same G G') (h : SqT K G a xs) : SqT K G' a xs := by
  rcases h with h | h
  · exact .inl (s.rd h)
  · exact .inr h
mutual
theorem Rep.mono (s : Same G G') : ∀ (d : D) (v : V), Rep K G v d → Rep K G' v d
  | .non, _, h => by cases h; exact .non
  | .bl b, _, h => by cases h; exact .bl b
  | .int i, _, h => by cases h; exact .int i
  | .str x, _, h => by cases h; exact .str x
  | .tup ds, _, h => by
    cases h with
    | tup q r => exact .tup (s _ _ q) (RepL.mono s ds _ r)
  | .lst ds, _, h => by
    cases h with
    | lst q r => exact .lst (s _ _ q) (RepL.mono s ds _ r)
  | .scr ns, _, h => by
    cases h with
    | scr q => exact .scr (s.seq q)
  | .fn nm, _, h => by cases h; exact .fn nm
  | .ptp ds, _, h => by
    cases h with
    | ptp q e r => exact .ptp (s _ _ q) e (RepL.mono s ds _ r)
  | .dic ks vs, _, h => by
    cases h with
    | dK q e r => exact .dK (s.rd q) e (RepL.mono s vs _ r)
    | dT q e r => exact .dT (s.rd q) e (RepL.mono s vs _ r)
  | .ndc ks vs, _, h => by
    cases h with
    | ndc q e r m t r2 => exact .ndc (s.rd q) e (RepL.mono s ks _ r) m t (RepL.mono s vs _ r2)
theorem RepL.mono (s : Same G G') : ∀ (ds : List D) (vs : List V), RepL K G vs ds → RepL K G' vs ds
  | [], _, h => by cases h; exact .nil
  | d :: ds, _, h => by
    cases h with
    | cons a b => exact .cons (Rep.mono s d _ a) (RepL.mono s ds _ b)
end
theorem RepO.mono (s : Same G G') {o : HO} {d : D} (h : RepO K G o d) : RepO K G' o d := by
  cases h with
  | lst r => exact .lst (r.mono s)
  | dK e r => exact .dK e (r.mono s)
  | dT e r => exact .dT e (r.mono s)
  | ndc e r m t r2 => exact .ndc e (r.mono s) m t (r2.mono s)
theorem RepL.length : ∀ {vs : List V} {ds : List D}, RepL K G vs ds → vs.length = ds.length
  | _, _, .nil => rfl
  | _, _, .cons _ t => congrArg Nat.succ (RepL.length t)
theorem RepL.append : ∀ {vs ws : List V} {ds es : List D}, RepL K G vs ds → RepL K G ws es → RepL K G (vs ++ ws) (ds ++ es)
  | _, _, _, _, .nil, h => h
  | _, _, _, _, .cons a b, h => .cons a (RepL.append b h)
theorem RepL.get : ∀ {vs : List V} {ds : List D} {i : Nat} {v : V}, RepL K G vs ds → vs[i]? = some v → ∃ d, ds[i]? = some d ∧ Rep K G v d
  | _, _, _, _, .nil, e => by simp at e
  | _, _, 0, _, .cons a _, e => by
    have e' := Option.some.inj (show some _ = some _ from e)
    subst e'
    exact ⟨_, rfl, a⟩
  | _, _, i + 1, v, .cons _ b, e => RepL.get (i := i) b (by simpa using e)
theorem RepL.getD : ∀ {vs : List V} {ds : List D} {i : Nat} {d : D}, RepL K G vs ds → ds[i]? = some d → ∃ v, vs[i]? = some v ∧ Rep K G v d
  | _, _, _, _, .nil, e => by simp at e
  | _, _, 0, _, .cons a _, e => by
    have e' := Option.some.inj (show some _ = some _ from e)
    subst e'
    exact ⟨_, rfl, a⟩
  | _, _, i + 1, v, .cons _ b, e => RepL.getD (i := i) b (by simpa using e)
theorem RepL.take : ∀ {vs : List V} {ds : List D} (n : Nat), RepL K G vs ds → RepL K G (vs.take n) (ds.take n)
  | _, _, 0, _ => .nil
  | _, _, _ + 1, .nil => .nil
  | _, _, n + 1, .cons a b => .cons a (RepL.take n b)
theorem RepL.drop : ∀ {vs : List V} {ds : List D} (n : Nat), RepL K G vs ds → RepL K G (vs.drop n) (ds.drop n)
  | _, _, 0, h => h
  | _, _, _ + 1, .nil => .nil
  | _, _, n + 1, .cons _ b => RepL.drop n b
theorem RepL.set {v : V} {d : D} (r : Rep K G v d) : ∀ {vs : List V} {ds : List D} (i : Nat), RepL K G vs ds → RepL K G (vs.set i v) (ds.set i d)
  | _, _, _, .nil => .nil
  | _, _, 0, .cons _ b => .cons r b
  | _, _, i + 1, .cons a b => .cons a (RepL.set r i b)
theorem RepL.reverse {vs : List V} {ds : List D} (h : RepL K G vs ds) : RepL K G vs.reverse ds.reverse := by
  induction vs generalizing ds with
  | nil => cases h; exact .nil
  | cons v vs ih =>
    cases h with
    | cons a b =>
      rw [List.reverse_cons, List.reverse_cons]
      exact (ih b).append (.cons a .nil)
theorem RepL.ints : ∀ {vs : List V} {ns : List Int}, RepL K G vs (ns.map D.int) → vs = ns.map V.int
  | vs, [], h => by cases h; rfl
  | vs, n :: ns, h => by
    cases h with
    | cons a b =>
      cases a
      rw [RepL.ints b] <;> rfl
theorem RepL.strs : ∀ {vs : List V} {xs : List (List Nat)}, RepL K G vs (xs.map D.str) → vs = (xs.map fun s => (⟨s.toArray⟩ : Str)).map V.str
  | vs, [], h => by cases h; rfl
  | vs, n :: ns, h => by
    cases h with
    | cons a b =>
      cases a
      rw [RepL.strs b] <;> rfl
end
inductive FD where
  | dat (d : D)
  | gh (g : Nat)
deriving Inhabited
inductive B where
  | un
  | im (d : D)
  | ow (d : D)
  | io (d : D)
  | ob (nm : Str) (fs : List (Str × FD))
  | fr (d : D)
deriving Inhabited
def B.data : B → Option D
  | .un => none
  | .im d => some d
  | .ow d => some d
  | .io d => some d
  | .ob _ _ => none
  | .fr d => some d
def B.isOw : B → Bool
  | .ow _ => true
  | .io _ => true
  | .ob _ _ => true
  | _ => false
def B.isLs : B → Bool
  | .ow _ => true
  | .io _ => true
  | _ => false
def B.pin : B → Bool
  | .io _ => true
  | .ob _ _ => true
  | .fr _ => true
  | _ => false
abbrev Env' := List B
inductive Rv where
  | pers (d : D)
  | bor (i : Nat)
def Rv.get (e : Env') : Rv → Option D
  | .pers d => some d
  | .bor i => (match e[i]? with
    | some b => (match b.data with
      | some (.lst l) => some (.lst l)
      | some (.dic k v) => some (.dic k v)
      | some (.ndc k v) => some (.ndc k v)
      | _ => none)
    | none => none)
def gets (e : Env') : List Rv → Option (List D)
  | [] => some []
  | r :: rs => (match r.get e with
    | some d => (match gets e rs with
      | some ds => some (d :: ds)
      | none => none)
    | none => none)
def Rv.settle (e : Env') : Rv → Option (D × Env')
  | .pers d => some (d, e)
  | .bor i => (match e[i]? with
    | some (.im d) => some (d, e)
    | some (.ow d) => some (d, e.set i (.im d))
    | _ => none)
def settles (e : Env') : List Rv → Option (List D × Env')
  | [] => some ([], e)
  | r :: rs => (match r.settle e with
    | some (d, e1) => (match settles e1 rs with
      | some (ds, e2) => some (d :: ds, e2)
      | none => none)
    | none => none)
def truth : D → Option Bool
  | .non => some false
  | .bl b => some b
  | .int i => some (i != 0)
  | .str s => if s.length ≤ 16000000 then some (!s.isEmpty) else none
  | .tup l => some (!l.isEmpty)
  | .lst l => some (!l.isEmpty)
  | .dic _ _ => none
  | .scr _ => none
  | .fn _ => none
  | .ptp _ => none
  | .ndc _ _ => none
def D.flat : D → Bool
  | .non => true
  | .bl _ => true
  | .int _ => true
  | .str _ => true
  | _ => false
inductive Tg where
  | nm (i : Nat)
  | tp (l : List Tg)
mutual
def Tg.bind : Tg → D → Env' → Option Env'
  | .nm i, d, e => (match e[i]? with
    | some (.io _) => none
    | some (.ob _ _) => none
    | some (.fr _) => none
    | some _ => some (e.set i (.im d))
    | none => none)
  | .tp ts, .tup ds, e => Tg.binds ts ds e
  | .tp ts, .lst ds, e => Tg.binds ts ds e
  | .tp _, _, _ => none
def Tg.binds : List Tg → List D → Env' → Option Env'
  | [], [], e => some e
  | t :: ts, d :: ds, e => (match t.bind d e with
    | some e1 => Tg.binds ts ds e1
    | none => none)
  | _, _, _ => none
end
abbrev Fk := Str × Str
inductive Ex where
  | cst (d : D)
  | var (i : Nat)
  | op (f : List D → Option D) (as : List Ex)
  | mk (f : List D → Option D) (as : List Ex)
  | call (φ : List D → Option D) (as : List Ex)
  | callO (φ : List D → Option (D × D)) (i : Nat) (as : List Ex)
  | callB (φ : List D → Option D) (as : List Ex)
  | and_ (a b : Ex)
  | or_ (a b : Ex)
  | ite (c a b : Ex)
  | chain (f g : List D → Option D) (a b c : Ex)
  | chain3 (f g h : List D → Option D) (a b c d : Ex)
  | lc (g : List D → Option (List D)) (as : List Ex) (vs : List Nat) (tg : Tg) (cs : List Ex) (elt : Ex)
  | lc2 (g : List D → Option (List D)) (as : List Ex) (vs : List Nat) (tg : Tg) (cs1 : List Ex) (g2 : List D → Option (List D)) (as2 : List Ex) (vs1 : List Nat) (tg2 : Tg) (cs : List Ex) (elt : Ex)
  | dsp (f : List D → Option D) (fl : List Bool) (as : List Ex)
  | fld (i : Nat) (f : Fk)
  | callM (nm : Str) (lay : List (Str × Bool)) (φ : List D → Option (D × D)) (i : Nat) (as : List Ex)
  | callF (φ : List D → Option (D × D)) (i : Nat) (f : Fk) (g : Nat) (as : List Ex)
  | callL (fl : List Bool) (φ : List D → Option D) (as : List Ex)
  | lcF (h : D → Option (List D)) (i : Nat) (f : Fk) (g : Nat) (vs : List Nat) (tg : Tg) (cs : List Ex) (elt : Ex)
def wipeE (e : Env') : List Nat → Env'
  | [] => e
  | v :: vs => (wipeE e vs).set v .un
def backE (e0 e : Env') : List Nat → Env'
  | [] => e
  | v :: vs => (match e0[v]? with
    | some b => (backE e0 e vs).set v b
    | none => backE e0 e vs)
def softE (e : Env') (vs : List Nat) : Bool := vs.all fun v => match e[v]? with
  | some b => !b.isOw && !b.pin
  | none => false
def lcLoop (f : D → Env' → Option (List D × Env')) : List D → Env' → Option (List D × Env')
  | [], e => some ([], e)
  | d :: ds, e => (match f d e with
    | some (ys, e1) => (match lcLoop f ds e1 with
      | some (zs, e2) => some (ys ++ zs, e2)
      | none => none)
    | none => none)
def lcTurn (tg : Tg) (vs : List Nat) (t : Env' → Option (Bool × Env')) (f : Env' → Option (Rv × Env')) (d : D) (e : Env') : Option (List D × Env') := match tg.bind d e with
  | some e3 => (match t e3 with
    | some (true, e4) => (match f e4 with
      | some (r, e5) => (match r.settle e5 with
        | some (y, e6) => some ([y], wipeE e6 vs)
        | none => none)
      | none => none)
    | some (false, e4) => some ([], wipeE e4 vs)
    | none => none)
  | none => none
def lc2Turn (tg : Tg) (vs vs1 : List Nat) (tg2 : Tg) (t1 : Env' → Option (Bool × Env')) (it : Env' → Option (List D × Env')) (t : Env' → Option (Bool × Env')) (f : Env' → Option (Rv × Env')) (d : D) (e : Env') : Option (List D × Env') := match tg.bind d e with
  | some e3 => (match t1 e3 with
    | some (true, e4) => (match it e4 with
      | some (items, e6) => if softE e6 vs1 then (match lcLoop (lcTurn tg2 vs1 t f) items (wipeE e6 vs1) with
        | some (ys, e7) => some (ys, wipeE e7 vs)
        | none => none) else none
      | none => none)
    | some (false, e4) => some ([], wipeE e4 vs)
    | none => none)
  | none => none
def starD : D → Option (List D)
  | .lst l => some l
  | .tup l => some l
  | _ => none
def ownAt (e : Env') (i : Nat) : Bool := match e[i]? with
  | some b => b.isLs
  | none => false
def fldG (e : Env') (i : Nat) (f : Fk) : Option Nat := match e[i]? with
  | some (.ob nm fs) => if nm = f.1 then (match fs.lookup f.2 with
    | some (.gh g) => some g
    | _ => none) else none
  | _ => none
def FD.own : FD → Bool
  | .dat _ => false
  | .gh _ => true
def layOf (fs : List (Str × FD)) : List (Str × Bool) := fs.map fun q => (q.1, q.2.own)
def ghs : List (Str × FD) → List Nat
  | [] => []
  | (_, .dat _) :: fs => ghs fs
  | (_, .gh g) :: fs => g :: ghs fs
def obAt (e : Env') (nm : Str) (lay : List (Str × Bool)) (i : Nat) : Bool := match e[i]? with
  | some (.ob nm' fs) => decide (nm' = nm) && (decide (layOf fs = lay) && decide (ghs fs).Nodup)
  | _ => false
def objD (e : Env') : List (Str × FD) → Option (List D)
  | [] => some []
  | (_, .dat d) :: fs => (match objD e fs with
    | some ds => some (d :: ds)
    | none => none)
  | (_, .gh g) :: fs => (match e[g]? with
    | some (.io d) => (match objD e fs with
      | some ds => some (d :: ds)
      | none => none)
    | _ => none)
def objPut : List (Str × FD) → List D → Env' → Option (List (Str × FD) × Env')
  | [], [], e => some ([], e)
  | (f, .dat _) :: fs, d :: ds, e => (match objPut fs ds e with
    | some (fs', e') => some ((f, .dat d) :: fs', e')
    | none => none)
  | (f, .gh g) :: fs, d :: ds, e => (match objPut fs ds e with
    | some (fs', e') => some ((f, .gh g) :: fs', e'.set g (.io d))
    | none => none)
  | _, _, _ => none
def putFD (f : Str) (x : FD) : List (Str × FD) → List (Str × FD)
  | [] => [(f, x)]
  | (g, y) :: fs => if g = f then (f, x) :: fs else (g, y) :: putFD f x fs
def settlesL : List Bool → List Rv → Env' → Option (List (Option D) × Env')
  | [], [], e => some ([], e)
  | true :: fl, _ :: rs, e => (match settlesL fl rs e with
    | some (ds, e2) => some (none :: ds, e2)
    | none => none)
  | false :: fl, r :: rs, e => (match r.settle e with
    | some (d, e1) => (match settlesL fl rs e1 with
      | some (ds, e2) => some (some d :: ds, e2)
      | none => none)
    | none => none)
  | _, _, _ => none
def lentD (e : Env') : List Rv → List (Option D) → Option (List D)
  | [], [] => some []
  | _ :: rs, some d :: ds => (match lentD e rs ds with
    | some l => some (d :: l)
    | none => none)
  | .bor i :: rs, none :: ds => (match e[i]? with
    | some (.io d) => (match lentD e rs ds with
      | some l => some (d :: l)
      | none => none)
    | some (.ow d) => (match lentD e rs ds with
      | some l => some (d :: l)
      | none => none)
    | some (.fr d) => (match lentD e rs ds with
      | some l => some (d :: l)
      | none => none)
    | _ => none)
  | _, _ => none
def lstAt (e : Env') (i : Nat) : Bool := match e[i]? with
  | some (.ow (.lst _)) => true
  | some (.io (.lst _)) => true
  | _ => false
mutual
def ev : Ex → Env' → Option (Rv × Env')
  | .cst d, e => some (.pers d, e)
  | .var i, e => (match e[i]? with
    | some (.im d) => some (.pers d, e)
    | some (.ow _) => some (.bor i, e)
    | some (.io _) => some (.bor i, e)
    | some (.fr _) => some (.bor i, e)
    | _ => none)
  | .op f as, e => (match evs as e with
    | some (rs, e1) => (match gets e1 rs with
      | some ds => (match f ds with
        | some d => some (.pers d, e1)
        | none => none)
      | none => none)
    | none => none)
  | .mk f as, e => (match evs as e with
    | some (rs, e1) => (match settles e1 rs with
      | some (ds, e2) => (match f ds with
        | some d => some (.pers d, e2)
        | none => none)
      | none => none)
    | none => none)
  | .call φ as, e => (match evs as e with
    | some (rs, e1) => (match settles e1 rs with
      | some (ds, e2) => (match φ ds with
        | some d => some (.pers d, e2)
        | none => none)
      | none => none)
    | none => none)
  | .callO φ i as, e => if ownAt e i then (match evs as e with
    | some (rs, e1) => (match settles e1 rs with
      | some (ds, e2) => (match e2[i]? with
        | some (.ow d0) => (match φ (d0 :: ds) with
          | some (d, d1) => some (.pers d, e2.set i (.ow d1))
          | none => none)
        | some (.io d0) => (match φ (d0 :: ds) with
          | some (d, d1) => some (.pers d, e2.set i (.io d1))
          | none => none)
        | _ => none)
      | none => none)
    | none => none) else none
  | .callB φ as, e => (match evs as e with
    | some (rs, e1) => (match gets e1 rs with
      | some ds => (match φ ds with
        | some d => if d.flat then some (.pers d, e1) else none
        | none => none)
      | none => none)
    | none => none)
  | .and_ a b, e => (match ev a e with
    | some (r, e1) => (match r.get e1 with
      | some d => (match truth d with
        | some true => ev b e1
        | some false => some (r, e1)
        | none => none)
      | none => none)
    | none => none)
  | .or_ a b, e => (match ev a e with
    | some (r, e1) => (match r.get e1 with
      | some d => (match truth d with
        | some false => ev b e1
        | some true => some (r, e1)
        | none => none)
      | none => none)
    | none => none)
  | .ite c a b, e => (match ev c e with
    | some (r, e1) => (match r.get e1 with
      | some d => (match truth d with
        | some true => ev a e1
        | some false => ev b e1
        | none => none)
      | none => none)
    | none => none)
  | .chain f g a b c, e => (match ev a e with
    | some (ra, e1) => (match ev b e1 with
      | some (rb, e2) => (match gets e2 [ra, rb] with
        | some ds => (match f ds with
          | some (.bl true) => (match ev c e2 with
            | some (rc, e3) => (match gets e3 [rb, rc] with
              | some ds2 => (match g ds2 with
                | some d => some (.pers d, e3)
                | none => none)
              | none => none)
            | none => none)
          | some (.bl false) => some (.pers (.bl false), e2)
          | _ => none)
        | none => none)
      | none => none)
    | none => none)
  | .chain3 f g h a b c d, e => (match ev a e with
    | some (ra, e1) => (match ev b e1 with
      | some (rb, e2) => (match gets e2 [ra, rb] with
        | some ds => (match f ds with
          | some (.bl true) => (match ev c e2 with
            | some (rc, e3) => (match gets e3 [rb, rc] with
              | some ds2 => (match g ds2 with
                | some (.bl true) => (match ev d e3 with
                  | some (rd, e4) => (match gets e4 [rc, rd] with
                    | some ds3 => (match h ds3 with
                      | some z => some (.pers z, e4)
                      | none => none)
                    | none => none)
                  | none => none)
                | some (.bl false) => some (.pers (.bl false), e3)
                | _ => none)
              | none => none)
            | none => none)
          | some (.bl false) => some (.pers (.bl false), e2)
          | _ => none)
        | none => none)
      | none => none)
    | none => none)
  | .lc g as vs tg cs elt, e => (match evs as e with
    | some (rs, e1) => (match settles e1 rs with
      | some (ds, e2) => (match g ds with
        | some items => if softE e2 vs then (match lcLoop (lcTurn tg vs (fun e => evt cs e) (fun e => ev elt e)) items (wipeE e2 vs) with
          | some (ys, e7) => if ys.length ≤ 16000000 then some (.pers (.lst ys), backE e2 e7 vs) else none
          | none => none) else none
        | none => none)
      | none => none)
    | none => none)
  | .lc2 g as vs tg cs1 g2 as2 vs1 tg2 cs elt, e => (match evs as e with
    | some (rs, e1) => (match settles e1 rs with
      | some (ds, e2) => (match g ds with
        | some items => if softE e2 vs && vs1.all (fun i => vs.contains i) then (match lcLoop (lc2Turn tg vs vs1 tg2 (fun e => evt cs1 e) (fun e => match evs as2 e with
            | some (rs, e5) => (match settles e5 rs with
              | some (ds, e6) => (match g2 ds with
                | some l => some (l, e6)
                | none => none)
              | none => none)
            | none => none) (fun e => evt cs e) (fun e => ev elt e)) items (wipeE e2 vs) with
          | some (ys, e7) => if ys.length ≤ 16000000 then some (.pers (.lst ys), backE e2 e7 vs) else none
          | none => none) else none
        | none => none)
      | none => none)
    | none => none)
  | .dsp f fl as, e => (match evd fl as e with
    | some (ds, e1) => (match f ds with
      | some d => some (.pers d, e1)
      | none => none)
    | none => none)
  | .fld i f, e => (match e[i]? with
    | some (.ob nm fs) => if nm = f.1 then (match fs.lookup f.2 with
      | some (.dat d) => some (.pers d, e)
      | some (.gh g) => (match e[g]? with
        | some (.io _) => some (.bor g, e)
        | some (.fr _) => some (.bor g, e)
        | _ => none)
      | none => none) else none
    | _ => none)
  | .callM nm lay φ i as, e => if obAt e nm lay i then (match evs as e with
    | some (rs, e1) => (match settles e1 rs with
      | some (ds, e2) => if obAt e2 nm lay i then (match e2[i]? with
        | some (.ob _ fs) => (match objD e2 fs with
          | some l => (match φ (.tup l :: ds) with
            | some (d, .tup l') => (match objPut fs l' e2 with
              | some (fs', e3) => some (.pers d, e3.set i (.ob nm fs'))
              | none => none)
            | _ => none)
          | none => none)
        | _ => none) else none
      | none => none)
    | none => none) else none
  | .callF φ i f g as, e => if fldG e i f = some g ∧ lstAt e g = true then (match evs as e with
    | some (rs, e1) => (match settles e1 rs with
      | some (ds, e2) => (match e2[g]? with
        | some (.io d0) => (match φ (d0 :: ds) with
          | some (d, d1) => some (.pers d, e2.set g (.io d1))
          | none => none)
        | _ => none)
      | none => none)
    | none => none) else none
  | .callL fl φ as, e => (match evs as e with
    | some (rs, e1) => (match settlesL fl rs e1 with
      | some (ds, e2) => (match lentD e2 rs ds with
        | some l => (match φ l with
          | some d => some (.pers d, e2)
          | none => none)
        | none => none)
      | none => none)
    | none => none)
  | .lcF h i f g vs tg cs elt, e => if fldG e i f = some g ∧ (softE e vs && !vs.contains g) = true then (match e[g]? with
    | some (.io d) => (match h d with
      | some items => (match lcLoop (lcTurn tg vs (fun e => evt cs e) (fun e => ev elt e)) items ((wipeE e vs).set g (.fr d)) with
        | some (ys, e7) => if ys.length ≤ 16000000 then some (.pers (.lst ys), (backE e e7 vs).set g (.io d)) else none
        | none => none)
      | none => none)
    | some (.fr d) => (match h d with
      | some items => (match lcLoop (lcTurn tg vs (fun e => evt cs e) (fun e => ev elt e)) items (wipeE e vs) with
        | some (ys, e7) => if ys.length ≤ 16000000 then some (.pers (.lst ys), backE e e7 vs) else none
        | none => none)
      | none => none)
    | _ => none) else none
def evd : List Bool → List Ex → Env' → Option (List D × Env')
  | _, [], e => some ([], e)
  | fl, a :: as, e => (match ev a e with
    | some (r, e1) => (match fl with
      | true :: fl => (match r.get e1 with
        | some d => (match starD d with
          | some l => (match evd fl as e1 with
            | some (ds, e2) => some (l ++ ds, e2)
            | none => none)
          | none => none)
        | none => none)
      | false :: fl => (match r.settle e1 with
        | some (d, e2) => (match evd fl as e2 with
          | some (ds, e3) => some (d :: ds, e3)
          | none => none)
        | none => none)
      | [] => none)
    | none => none)
def evs : List Ex → Env' → Option (List Rv × Env')
  | [], e => some ([], e)
  | a :: as, e => (match ev a e with
    | some (r, e1) => (match evs as e1 with
      | some (rs, e2) => some (r :: rs, e2)
      | none => none)
    | none => none)
def evt : List Ex → Env' → Option (Bool × Env')
  | [], e => some (true, e)
  | c :: _, e => (match ev c e with
    | some (r, e1) => (match r.get e1 with
      | some d => (match truth d with
        | some b => some (b, e1)
        | none => none)
      | none => none)
    | none => none)
end
inductive PIt where
  | keep (x : Ex)
  | own (x : Ex)
  | obj (nm : Str) (gs : List (Str × Option Nat)) (φ : List D → Option D) (as : List Ex)
inductive S where
  | skip
  | seq (a b : S)
  | set (tg : Tg) (x : Ex)
  | setO (i : Nat) (x : Ex)
  | par (i j : Nat) (a b : Ex)
  | parO (is : List Nat) (fl : List Bool) (xs : List Ex)
  | exp (x : Ex)
  | app (i : Nat) (x : Ex)
  | sub (f : D → D → D → Option D) (i : Nat) (k x : Ex)
  | iff (c : Ex) (a b : S)
  | forr (g : List D → Option (List D)) (as : List Ex) (tg : Tg) (b : S)
  | whil (n : Nat) (c : Ex) (b : S)
  | ret (x : Ex)
  | retN
  | retO (x : Ex)
  | retV (i : Nat)
  | mov (i : Nat) (φ : List D → Option D) (xs : List Ex)
  | grd (i : Nat) (f : Fk) (g : Nat) (s : S)
  | setF (i : Nat) (f : Fk) (x : Ex)
  | setFO (i : Nat) (f : Fk) (g : Nat) (x : Ex)
  | setFs (i : Nat) (nm : Str) (fs : List Str) (x : Ex)
  | newG (i : Nat) (nm : Str) (gs : List (Str × Option Nat)) (φ : List D → Option D) (as : List Ex)
  | parG (is : List Nat) (xs : List PIt)
  | forF (h : D → Option (List D)) (i : Nat) (f : Fk) (g : Nat) (tg : Tg) (b : S)
  | forV (h : D → Option (List D)) (g : Nat) (tg : Tg) (b : S)
  | sub2 (f : D → D → D → Option D) (i : Nat) (k : Ex) (j : Nat) (l : Ex) (x : Ex)
  | brk
  | cnt
  | never
def evo : List Bool → List Ex → Env' → Option (List D × Env')
  | _, [], e => some ([], e)
  | [], _ :: _, _ => none
  | true :: fl, x :: xs, e => (match ev x e with
    | some (.pers d, e1) => (match evo fl xs e1 with
      | some (ds, e2) => some (d :: ds, e2)
      | none => none)
    | _ => none)
  | false :: fl, x :: xs, e => (match ev x e with
    | some (r, e1) => (match r.settle e1 with
      | some (d, e2) => (match evo fl xs e2 with
        | some (ds, e3) => some (d :: ds, e3)
        | none => none)
      | none => none)
    | none => none)
def storesO : List Nat → List Bool → List D → Env' → Option Env'
  | [], [], [], e => some e
  | i :: is, b :: fl, d :: ds, e => (match storesO is fl ds e with
    | some e1 => (match e1[i]? with
      | some (.io _) => none
      | some (.ob _ _) => none
      | some (.fr _) => none
      | some _ => some (e1.set i (if b then .ow d else .im d))
      | none => none)
    | none => none)
  | _, _, _, _ => none
inductive Out where
  | nx (e : Env')
  | rt (d : D) (e : Env')
  | ro (d : D) (e : Env')
  | bk (e : Env')
  | ct (e : Env')
def Out.setE (g : Nat) (b : B) : Out → Out
  | .nx e => .nx (e.set g b)
  | .rt d e => .rt d (e.set g b)
  | .ro d e => .ro d (e.set g b)
  | .bk e => .bk (e.set g b)
  | .ct e => .ct (e.set g b)
def newFs : List (Str × Option Nat) → List D → Env' → Option (List (Str × FD) × Env')
  | [], [], e => some ([], e)
  | (f, none) :: gs, d :: ds, e => (match newFs gs ds e with
    | some (fs, e') => some ((f, .dat d) :: fs, e')
    | none => none)
  | (f, some g) :: gs, d :: ds, e => (match newFs gs ds e with
    | some (fs, e') => (match e'[g]? with
      | some .un => some ((f, .gh g) :: fs, e'.set g (.io d))
      | _ => none)
    | none => none)
  | _, _, _ => none
def newOb (i : Nat) (nm : Str) (gs : List (Str × Option Nat)) (l : List D) (e : Env') : Option Env' := match newFs gs l e with
  | some (fs, e1) => (match e1[i]? with
    | some (.io _) => none
    | some (.ob _ _) => none
    | some (.fr _) => none
    | some _ => some (e1.set i (.ob nm fs))
    | none => none)
  | none => none
def evG : List PIt → Env' → Option (List D × Env')
  | [], e => some ([], e)
  | .own x :: xs, e => (match ev x e with
    | some (.pers d, e1) => (match evG xs e1 with
      | some (ds, e2) => some (d :: ds, e2)
      | none => none)
    | _ => none)
  | .keep x :: xs, e => (match ev x e with
    | some (r, e1) => (match r.settle e1 with
      | some (d, e2) => (match evG xs e2 with
        | some (ds, e3) => some (d :: ds, e3)
        | none => none)
      | none => none)
    | none => none)
  | .obj _ _ φ as :: xs, e => (match evs as e with
    | some (rs, e1) => (match settles e1 rs with
      | some (l, e2) => (match φ l with
        | some (.tup d) => (match evG xs e2 with
          | some (ds, e3) => some (.tup d :: ds, e3)
          | none => none)
        | _ => none)
      | none => none)
    | none => none)
def storesG : List Nat → List PIt → List D → Env' → Option Env'
  | [], [], [], e => some e
  | i :: is, x :: xs, d :: ds, e => (match storesG is xs ds e with
    | some e1 => (match x with
      | .obj nm gs _ _ => (match d with
        | .tup l => newOb i nm gs l e1
        | _ => none)
      | .own _ => (match e1[i]? with
        | some (.io _) => none
        | some (.ob _ _) => none
        | some (.fr _) => none
        | some _ => some (e1.set i (.ow d))
        | none => none)
      | .keep _ => (match e1[i]? with
        | some (.io _) => none
        | some (.ob _ _) => none
        | some (.fr _) => none
        | some _ => some (e1.set i (.im d))
        | none => none))
    | none => none)
  | _, _, _, _ => none
def setFD (i : Nat) (f : Fk) (d : D) (e : Env') : Option Env' := match e[i]? with
  | some (.ob nm fs) => if nm = f.1 then (match fs.lookup f.2 with
    | some (.gh _) => none
    | _ => if fs.length < 900 then some (e.set i (.ob nm (putFD f.2 (.dat d) fs))) else none) else none
  | _ => none
def setFDs (i : Nat) (nm : Str) : List Str → List D → Env' → Option Env'
  | [], [], e => some e
  | f :: fs, d :: ds, e => (match setFD i (nm, f) d e with
    | some e1 => setFDs i nm fs ds e1
    | none => none)
  | _, _, _ => none
def forLoop (f : D → Env' → Option Out) : List D → Env' → Option Out
  | [], e => some (.nx e)
  | d :: ds, e => (match f d e with
    | some (.nx e1) => forLoop f ds e1
    | some (.ct e1) => forLoop f ds e1
    | some (.bk e1) => some (.nx e1)
    | some (.rt v e1) => some (.rt v e1)
    | some (.ro v e1) => some (.ro v e1)
    | none => none)
def whileLoop (c : Env' → Option (Bool × Env')) (f : Env' → Option Out) : Nat → Env' → Option Out
  | 0, _ => none
  | n + 1, e => (match c e with
    | some (false, e1) => some (.nx e1)
    | some (true, e1) => (match f e1 with
      | some (.nx e2) => whileLoop c f n e2
      | some (.ct e2) => whileLoop c f n e2
      | some (.bk e2) => some (.nx e2)
      | some (.rt v e2) => some (.rt v e2)
      | some (.ro v e2) => some (.ro v e2)
      | none => none)
    | none => none)
def storeD (f : D → D → D → Option D) (i : Nat) (k : Ex) (d : D) (e : Env') : Option Env' := if ownAt e i then (match ev k e with
  | some (r, e1) => (match r.settle e1 with
    | some (kd, e2) => (match e2[i]? with
      | some (.ow o) => (match f o kd d with
        | some o' => some (e2.set i (.ow o'))
        | none => none)
      | some (.io o) => (match f o kd d with
        | some o' => some (e2.set i (.io o'))
        | none => none)
      | _ => none)
    | none => none)
  | none => none) else none
def ex : S → Env' → Option Out
  | .skip, e => some (.nx e)
  | .seq a b, e => (match ex a e with
    | some (.nx e1) => ex b e1
    | some o => some o
    | none => none)
  | .set tg x, e => (match ev x e with
    | some (r, e1) => (match r.settle e1 with
      | some (d, e2) => (match tg.bind d e2 with
        | some e3 => some (.nx e3)
        | none => none)
      | none => none)
    | none => none)
  | .setO i x, e => (match ev x e with
    | some (.pers d, e1) => (match e1[i]? with
      | some (.io _) => none
      | some (.ob _ _) => none
      | some (.fr _) => none
      | some _ => some (.nx (e1.set i (.ow d)))
      | none => none)
    | _ => none)
  | .par i j a b, e => (match evs [a, b] e with
    | some (rs, e1) => (match settles e1 rs with
      | some ([x, y], e2) => (match Tg.binds [.nm i, .nm j] [x, y] e2 with
        | some e3 => some (.nx e3)
        | none => none)
      | _ => none)
    | none => none)
  | .parO is fl xs, e => (match evo fl xs e with
    | some (ds, e1) => (match storesO is fl ds e1 with
      | some e2 => some (.nx e2)
      | none => none)
    | none => none)
  | .exp x, e => (match ev x e with
    | some (_, e1) => some (.nx e1)
    | none => none)
  | .app i x, e => if lstAt e i then (match ev x e with
    | some (r, e1) => (match r.settle e1 with
      | some (d, e2) => (match e2[i]? with
        | some (.ow (.lst l)) => if l.length < 16000000 then some (.nx (e2.set i (.ow (.lst (l ++ [d]))))) else none
        | some (.io (.lst l)) => if l.length < 16000000 then some (.nx (e2.set i (.io (.lst (l ++ [d]))))) else none
        | _ => none)
      | none => none)
    | none => none) else none
  | .sub f i k x, e => if ownAt e i then (match evs [x, k] e with
    | some (rs, e1) => (match settles e1 rs with
      | some ([d, kd], e2) => (match e2[i]? with
        | some (.ow o) => (match f o kd d with
          | some o' => some (.nx (e2.set i (.ow o')))
          | none => none)
        | some (.io o) => (match f o kd d with
          | some o' => some (.nx (e2.set i (.io o')))
          | none => none)
        | _ => none)
      | _ => none)
    | none => none) else none
  | .iff c a b, e => (match ev c e with
    | some (r, e1) => (match r.get e1 with
      | some d => (match truth d with
        | some true => ex a e1
        | some false => ex b e1
        | none => none)
      | none => none)
    | none => none)
  | .forr g as tg b, e => (match evs as e with
    | some (rs, e1) => (match settles e1 rs with
      | some (ds, e2) => (match g ds with
        | some items => forLoop (fun d e => match tg.bind d e with
          | some e3 => ex b e3
          | none => none) items e2
        | none => none)
      | none => none)
    | none => none)
  | .whil n c b, e => whileLoop (fun e => match ev c e with
      | some (r, e1) => (match r.get e1 with
        | some d => (match truth d with
          | some t => some (t, e1)
          | none => none)
        | none => none)
      | none => none) (fun e => ex b e) n e
  | .ret x, e => (match ev x e with
    | some (r, e1) => (match r.settle e1 with
      | some (d, e2) => some (.rt d e2)
      | none => none)
    | none => none)
  | .retN, e => some (.rt .non e)
  | .retO x, e => (match ev x e with
    | some (.pers d, e1) => some (.ro d e1)
    | _ => none)
  | .retV i, e => (match e[i]? with
    | some (.ow d) => some (.ro d e)
    | _ => none)
  | .mov i φ xs, e => (match evs xs e with
    | some (rs, e1) => (match settles e1 rs with
      | some (ds, e2) => (match e2[i]? with
        | some (.ow d0) => (match φ (ds ++ [d0]) with
          | some d => some (.nx (e2.set i (.ow d)))
          | none => none)
        | _ => none)
      | none => none)
    | none => none)
  | .sub2 f i k j l x, e => (match ev x e with
    | some (r, e1) => (match r.settle e1 with
      | some (d, e2) => (match d with
        | .tup [d1, d2] => (match storeD f i k d1 e2 with
          | some e3 => (match storeD f j l d2 e3 with
            | some e4 => some (.nx e4)
            | none => none)
          | none => none)
        | _ => none)
      | none => none)
    | none => none)
  | .grd i f g s, e => if fldG e i f = some g then ex s e else none
  | .setF i f x, e => (match ev x e with
    | some (r, e1) => (match r.settle e1 with
      | some (d, e2) => (match setFD i f d e2 with
        | some e3 => some (.nx e3)
        | none => none)
      | none => none)
    | none => none)
  | .setFO i f g x, e => (match ev x e with
    | some (.pers d, e1) => (match e1[i]? with
      | some (.ob nm fs) => if nm = f.1 then (match fs.lookup f.2 with
        | none => (match e1[g]? with
          | some .un => if fs.length < 900 then some (.nx ((e1.set g (.io d)).set i (.ob nm (putFD f.2 (.gh g) fs)))) else none
          | _ => none)
        | some _ => none) else none
      | _ => none)
    | _ => none)
  | .setFs i nm fs x, e => (match ev x e with
    | some (r, e1) => (match r.settle e1 with
      | some (d, e2) => (match d with
        | .tup ds => (match setFDs i nm fs ds e2 with
          | some e3 => some (.nx e3)
          | none => none)
        | _ => none)
      | none => none)
    | none => none)
  | .newG i nm gs φ as, e => (match evs as e with
    | some (rs, e1) => (match settles e1 rs with
      | some (ds, e2) => (match φ ds with
        | some (.tup l) => (match newOb i nm gs l e2 with
          | some e3 => some (.nx e3)
          | none => none)
        | _ => none)
      | none => none)
    | none => none)
  | .parG is xs, e => (match evG xs e with
    | some (ds, e1) => (match storesG is xs ds e1 with
      | some e2 => some (.nx e2)
      | none => none)
    | none => none)
  | .forF h i f g tg b, e => if fldG e i f = some g then (match e[g]? with
    | some (.io d) => (match h d with
      | some items => (match forLoop (fun d e => match tg.bind d e with
          | some e3 => ex b e3
          | none => none) items (e.set g (.fr d)) with
        | some o => some (o.setE g (.io d))
        | none => none)
      | none => none)
    | some (.fr d) => (match h d with
      | some items => forLoop (fun d e => match tg.bind d e with
          | some e3 => ex b e3
          | none => none) items e
      | none => none)
    | _ => none) else none
  | .forV h g tg b, e => (match e[g]? with
    | some (.io d) => (match h d with
      | some items => (match forLoop (fun d e => match tg.bind d e with
          | some e3 => ex b e3
          | none => none) items (e.set g (.fr d)) with
        | some o => some (o.setE g (.io d))
        | none => none)
      | none => none)
    | _ => none)
  | .brk, e => some (.bk e)
  | .cnt, e => some (.ct e)
  | .never, _ => none
end Mi
namespace Mi
open PySem PySem.Spec PyProof.Rows L2 GxR
structure Cfg where
  K : FragW
  tt : List Addr
  tl : List (Addr × Str) := []
def TabC (C : Cfg) (H : Hp) (P : Addr) : Prop := TabG H P ∧ ∀ q, (P, q) ∈ C.tl → LamX.TabS H P q
theorem TabC.keep {C : Cfg} {H H' : Hp} {P : Addr} (t : TabC C H P) (hp : H' P = H P) (hc : ∀ c q, H c = some (LamX.CodeO c q) → H' c = some (LamX.CodeO c q)) : TabC C H' P := by
  obtain ⟨⟨ps, e, h⟩, k⟩ := t
  refine ⟨⟨ps, by rw [hp]; exact e, h⟩, fun q hq => ?_⟩
  obtain ⟨ps2, e2, h2, h3⟩ := k q hq
  refine ⟨ps2, by rw [hp]; exact e2, h2, fun pos cv h => ?_⟩
  obtain ⟨c, e3, e4⟩ := h3 pos cv h
  exact ⟨c, e3, hc _ _ e4⟩
def Cfg.gt (C : Cfg) (P : Addr) : Prop := P ∈ C.tt ∧ ∀ q, (P, q) ∉ C.tl
def SlotOk (C : Cfg) (F G H : Hp) (s : Option (Option V)) : B → Prop
  | .un => True
  | .im d => ∃ v, s = some (some v) ∧ Rep C.K G v d
  | .ow d => ∃ p o, s = some (some (.ref p)) ∧ G p = none ∧ F p = none ∧ p ∉ C.tt ∧ H p = some o ∧ RepO C.K G o d
  | .io d => ∃ p o, s = some (some (.ref p)) ∧ G p = none ∧ F p = none ∧ p ∉ C.tt ∧ H p = some o ∧ RepO C.K G o d
  | .ob _ _ => True
  | .fr d => ∃ p o, s = some (some (.ref p)) ∧ G p = none ∧ F p = some o ∧ RepO C.K G o d
abbrev Pn := List (Nat × Addr)
inductive Fds (K : FragW) (G : Hp) (σ : St) (e : Env') : List (Str × V) → List (Str × FD) → Prop
  | nil : Fds K G σ e [] []
  | dat {f : Str} {v : V} {d : D} {fvs : List (Str × V)} {fs : List (Str × FD)} : Rep K G v d → Fds K G σ e fvs fs → Fds K G σ e ((f, v) :: fvs) ((f, .dat d) :: fs)
  | gh {f : Str} {q : Addr} {g : Nat} {b : B} {fvs : List (Str × V)} {fs : List (Str × FD)} : σ[g]? = some (some (.ref q)) → e[g]? = some b → b.pin = true → Fds K G σ e fvs fs → Fds K G σ e ((f, .ref q) :: fvs) ((f, .gh g) :: fs)
def ObAt (C : Cfg) (F G H : Hp) (σ : St) (e : Env') (nm : Str) (fs : List (Str × FD)) (p : Addr) : Prop := G p = none ∧ F p = none ∧ p ∉ C.tt ∧ ∃ dx fvs, H p = some (.ins (He.ga C.K nm) dx fvs) ∧ Fds C.K G σ e fvs fs
def PinK (σ : St) (e : Env') (σ' : St) (e' : Env') : Prop := ∀ (g : Nat) (b : B) (q : Addr), e[g]? = some b → b.pin = true → σ[g]? = some (some (.ref q)) → σ'[g]? = some (some (.ref q)) ∧ ∃ b', e'[g]? = some b' ∧ b'.pin = true
def Own (σ : St) (e : Env') (i : Nat) (p : Addr) : Prop := σ[i]? = some (some (.ref p)) ∧ ∃ b, e[i]? = some b ∧ b.isOw = true
def NT (o : Option HO) : Prop := ∀ xs, o ≠ some (.tup xs)
structure Rel (C : Cfg) (F G0 G H : Hp) (pn : Pn) (σ : St) (e : Env') : Prop where
  fh : Same F H
  gh : Same G H
  gf : ∀ p, F p ≠ none → NT (F p) → G p = G0 p
  tb : ∀ P ∈ C.tt, TabC C H P ∧ G P = none ∧ F P = none
  sl : ∀ (i : Nat) (b : B), e[i]? = some b → SlotOk C F G H σ[i]? b
  ap : ∀ i j p, Own σ e i p → Own σ e j p → i = j
  ob : ∀ (i : Nat) (nm : Str) (fs : List (Str × FD)), e[i]? = some (B.ob nm fs) → ∃ p, σ[i]? = some (some (.ref p)) ∧ ObAt C F G H σ e nm fs p
  fp : ∀ (i : Nat) (d : D), e[i]? = some (B.fr d) → ∃ p, (i, p) ∈ pn
  pi : ∀ i p, (i, p) ∈ pn → σ[i]? = some (some (.ref p)) ∧ ∃ b, e[i]? = some b ∧ b.pin = true
  ln : σ.length = e.length
structure Grow (C : Cfg) (G H G' H' : Hp) : Prop where
  gg : Same G G'
  gh : Same G' H'
  hh : ∀ p, H p ≠ none → p ∉ C.tt → H' p = H p
  go : ∀ p, H p ≠ none → NT (H p) → G' p = G p
  tb : ∀ P ∈ C.tt, TabC C H' P
def RepR (K : FragW) (G : Hp) (σ : St) (e : Env') (r : Rv) (v : V) : Prop := match r with
  | .pers d => Rep K G v d
  | .bor i => σ[i]? = some (some v) ∧ ∃ (b : B) (d : D), e[i]? = some b ∧ b.data = some d
inductive RepT (K : FragW) (G H : Hp) : V → D → Prop
  | non : RepT K G H .non .non
  | bl (b : Bool) : RepT K G H (.bl b) (.bl b)
  | int (i : Int) : RepT K G H (.int i) (.int i)
  | str (s : List Nat) : RepT K G H (.str ⟨s.toArray⟩) (.str s)
  | tup {a : Addr} {xs : List V} {ds : List D} : G a = some (.tup xs) → H a = some (.tup xs) → RepL K G xs ds → RepT K G H (.ref a) (.tup ds)
  | lst {a : Addr} {xs : List V} {ds : List D} : H a = some (.lst xs) → RepL K G xs ds → RepT K G H (.ref a) (.lst ds)
  | scr {a : Addr} {ns : List Int} : SqL K H a (ns.map V.int) → RepT K G H (.ref a) (.scr ns)
  | fn (nm : Str) : RepT K G H (.ref (He.ga K nm)) (.fn nm)
  | ptp {a : Addr} {o : Obj} {xs : List V} {ds : List D} : G a = some (.frz o (.tup xs)) → H a = some (.frz o (.tup xs)) → o.dict = none → RepL K G xs ds → RepT K G H (.ref a) (.ptp ds)
  | dK {a : Addr} {kvs : List (Key × V)} {ks vs : List D} : Rd H a (.dK kvs) → ks = kvs.map (fun q => keyD q.1) → RepL K G (kvs.map (·.2)) vs → RepT K G H (.ref a) (.dic ks vs)
  | dT {a : Addr} {kvs : List (List Key × V)} {ks vs : List D} : Rd H a (.dT kvs) → ks = .non :: kvs.map (fun q => D.tup (q.1.map keyD)) → RepL K G (kvs.map (·.2)) vs → RepT K G H (.ref a) (.dic ks vs)
  | ndc {a p : Addr} {xs : List (NestedKey × Addr × Value)} {us ws : List V} {ks vs : List D} : Rd H a (.ext (NObj K.P K.w p xs)) → us = xs.map (fun q => V.ref q.2.1) → RepL K G us ks → ks.map nkey = xs.map (fun q => some q.1) → Vals ws (xs.map (·.2.2)) → RepL K G ws vs → RepT K G H (.ref a) (.ndc ks vs)
section
variable {C : Cfg} {F F' G0 G G' H H' : Hp} {pn : Pn} {σ σ' : St} {e e' : Env'} {v : V} {d : D}
theorem Fds.keep (s : Same G G') (k : PinK σ e σ' e') : ∀ {fvs : List (Str × V)} {fs : List (Str × FD)}, Fds C.K G σ e fvs fs → Fds C.K G' σ' e' fvs fs
  | _, _, .nil => .nil
  | _, _, .dat r t => .dat (r.mono s) (Fds.keep s k t)
  | _, _, .gh h1 h2 h3 t => by
    obtain ⟨k1, b', k2, k3⟩ := k _ _ _ h2 h3 h1
    exact .gh k1 k2 k3 (Fds.keep s k t)
theorem ObAt.keep {nm : Str} {fs : List (Str × FD)} {p : Addr} (h : ObAt C F G H σ e nm fs p) (g' : G' p = none) (f' : F' p = none) (hh : H' p = H p) (s : Same G G') (k : PinK σ e σ' e') : ObAt C F' G' H' σ' e' nm fs p := by
  obtain ⟨_, _, h3, dx, fvs, h4, h5⟩ := h
  exact ⟨g', f', h3, dx, fvs, hh.trans h4, h5.keep s k⟩
theorem PinK.refl : PinK σ e σ e := fun g b q h1 h2 h3 => ⟨h3, b, h1, h2⟩
theorem PinK.trans {σ2 : St} {e2 : Env'} (a : PinK σ e σ' e') (b : PinK σ' e' σ2 e2) : PinK σ e σ2 e2 := fun g x q h1 h2 h3 => by
  obtain ⟨k1, x', k2, k3⟩ := a g x q h1 h2 h3
  exact b g x' q k2 k3 k1
theorem PinK.set {i : Nat} {b b0 : B} (h0 : e[i]? = some b0) (hp : b0.pin = false ∨ b.pin = true) : PinK σ e σ (e.set i b) := fun g x q h1 h2 h3 => by
  by_cases hg : i = g
  · subst hg
    rw [h0] at h1
    cases h1
    rcases hp with z | z
    · rw [z] at h2; cases h2
    · exact ⟨h3, b, List.getElem?_set_self (List.getElem?_eq_some_iff.mp h0).1, z⟩
  · exact ⟨h3, x, by rw [List.getElem?_set_ne hg]; exact h1, h2⟩
theorem PinK.set2 {i : Nat} {b b0 : B} {w : Option V} (h0 : e[i]? = some b0) (hp : b0.pin = false) : PinK σ e (σ.set i w) (e.set i b) := fun g x q h1 h2 h3 => by
  by_cases hg : i = g
  · subst hg
    rw [h0] at h1
    cases h1
    rw [hp] at h2; cases h2
  · exact ⟨by rw [List.getElem?_set_ne hg]; exact h3, x, by rw [List.getElem?_set_ne hg]; exact h1, h2⟩
theorem set_fr {i j : Nat} {b : B} {x : D} (h : (e.set i b)[j]? = some (.fr x)) (hb : ∀ d, b ≠ .fr d) : e[j]? = some (.fr x) := by
  by_cases hj : i = j
  · subst hj
    have hl := (List.getElem?_eq_some_iff.mp h).1
    rw [List.length_set] at hl
    rw [List.getElem?_set_self hl] at h
    exact absurd (Option.some.inj h) (hb x)
  · rw [List.getElem?_set_ne hj] at h; exact h
theorem ObAt.own {i : Nat} {nm : Str} {fs : List (Str × FD)} {p : Addr} (hs : σ[i]? = some (some (.ref p))) (he : e[i]? = some (.ob nm fs)) : Own σ e i p := ⟨hs, _, he, rfl⟩
theorem ObAt.ne {nm : Str} {fs : List (Str × FD)} {p : Addr} (h : ObAt C F G H σ e nm fs p) : H p ≠ none := by
  obtain ⟨_, _, _, dx, fvs, h4, _⟩ := h
  rw [h4]; exact fun z => nomatch z
theorem ObAt.nt {nm : Str} {fs : List (Str × FD)} {p : Addr} (h : ObAt C F G H σ e nm fs p) : NT (H p) := fun xs z => by
  obtain ⟨_, _, _, dx, fvs, h4, _⟩ := h
  rw [h4] at z; cases z
theorem Rel.ownH (R : Rel C F G0 G H pn σ e) {j : Nat} {q : Addr} (o : Own σ e j q) : H q ≠ none ∧ G q = none ∧ F q = none ∧ q ∉ C.tt ∧ NT (H q) := by
  obtain ⟨a1, b, a2, a3⟩ := o
  have sl := R.sl j b a2
  have ls : (∃ p o d, σ[j]? = some (some (.ref p)) ∧ G p = none ∧ F p = none ∧ p ∉ C.tt ∧ H p = some o ∧ RepO C.K G o d) → H q ≠ none ∧ G q = none ∧ F q = none ∧ q ∉ C.tt ∧ NT (H q) := fun ⟨p, o, d, k0, k1, k2, k3, k4, k5⟩ => by
    rw [a1] at k0
    cases k0
    refine ⟨by rw [k4]; exact (fun z => nomatch z), k1, k2, k3, fun xs z => ?_⟩
    rw [k4] at z
    cases z
    cases k5
  cases b with
  | un => cases a3
  | im d => cases a3
  | fr d => cases a3
  | ow d => obtain ⟨p, o, k⟩ := sl; exact ls ⟨p, o, d, k⟩
  | io d => obtain ⟨p, o, k⟩ := sl; exact ls ⟨p, o, d, k⟩
  | ob nm fs =>
    obtain ⟨p, k1, k2⟩ := R.ob j nm fs a2
    rw [a1] at k1
    cases k1
    exact ⟨k2.ne, k2.1, k2.2.1, k2.2.2.1, k2.nt⟩
theorem Rel.pnH (R : Rel C F G0 G H pn σ e) {i : Nat} {q : Addr} (h : (i, q) ∈ pn) : H q ≠ none := by
  obtain ⟨h1, b, h2, h3⟩ := R.pi i q h
  cases b with
  | un => cases h3
  | im d => cases h3
  | ow d => cases h3
  | io d => exact (R.ownH ⟨h1, _, h2, rfl⟩).1
  | ob nm fs => exact (R.ownH ⟨h1, _, h2, rfl⟩).1
  | fr d =>
    obtain ⟨p, o, k0, k1, k2, _⟩ := R.sl i _ h2
    rw [h1] at k0
    cases k0
    rw [R.fh _ _ k2]; exact fun z => nomatch z
theorem Rel.pnNe (R : Rel C F G0 G H pn σ e) {p : Addr} (f1 : F p = none) (o1 : ∀ i, ¬ Own σ e i p) : ∀ i q, (i, q) ∈ pn → q ≠ p := fun i q h z => by
  subst z
  obtain ⟨h1, b, h2, h3⟩ := R.pi i q h
  cases b with
  | un => cases h3
  | im d => cases h3
  | ow d => cases h3
  | io d => exact o1 i ⟨h1, _, h2, rfl⟩
  | ob nm fs => exact o1 i ⟨h1, _, h2, rfl⟩
  | fr d =>
    obtain ⟨p, o, k0, k1, k2, _⟩ := R.sl i _ h2
    rw [h1] at k0
    cases k0
    rw [f1] at k2
    cases k2
def B.old : B → Bool
  | .ob _ _ => false
  | .fr _ => false
  | _ => true
def Olds (e : Env') : Prop := ∀ b ∈ e, b.old = true
theorem Olds.ims {ds : List D} : Olds (ds.map B.im) := fun b h => by
  obtain ⟨d, _, rfl⟩ := List.mem_map.mp h
  rfl
theorem Olds.uns {n : Nat} : Olds (List.replicate n .un) := fun b h => by
  rw [(List.mem_replicate.mp h).2]
  rfl
theorem Olds.app {a b : Env'} (x : Olds a) (y : Olds b) : Olds (a ++ b) := fun c h => (List.mem_append.mp h).elim (x c) (y c)
theorem Olds.cons {b : B} {a : Env'} (h : b.old = true) (x : Olds a) : Olds (b :: a) := fun c k => by
  rcases List.mem_cons.mp k with rfl | k
  · exact h
  · exact x c k
theorem old_ob {i : Nat} {nm : Str} {fs : List (Str × FD)} (o : Olds e) (h : e[i]? = some (.ob nm fs)) : False := by
  have := o _ (List.mem_of_getElem? h)
  cases this
theorem old_fr {i : Nat} {d : D} (o : Olds e) (h : e[i]? = some (.fr d)) : False := by
  have := o _ (List.mem_of_getElem? h)
  cases this
theorem Rep.top (s : Same G H) (h : Rep C.K G v d) : RepT C.K G H v d := by
  cases h with
  | non => exact .non
  | bl b => exact .bl b
  | int i => exact .int i
  | str s => exact .str s
  | tup q r => exact .tup q (s _ _ q) r
  | lst q r => exact .lst (s _ _ q) r
  | scr q => exact .scr (s.seq q)
  | fn nm => exact .fn nm
  | ptp q e r => exact .ptp q (s _ _ q) e r
  | dK q e r => exact .dK (s.rd q) e r
  | dT q e r => exact .dT (s.rd q) e r
  | ndc q e r m t r2 => exact .ndc (s.rd q) e r m t r2
theorem RepT.all (s : Same G H) (h : RepT C.K G H v d) : Rep C.K H v d := by
  cases h with
  | non => exact .non
  | bl b => exact .bl b
  | int i => exact .int i
  | str s => exact .str s
  | tup g q r => exact .tup q (r.mono s)
  | lst q r => exact .lst q (r.mono s)
  | scr q => exact .scr q
  | fn nm => exact .fn nm
  | ptp g q e r => exact .ptp q e (r.mono s)
  | dK q e r => exact .dK q e (r.mono s)
  | dT q e r => exact .dT q e (r.mono s)
  | ndc q e r m t r2 => exact .ndc q e (r.mono s) m t (r2.mono s)
theorem RepT.flat (f : d.flat = true) (h : RepT C.K G H v d) (G' : Hp) : Rep C.K G' v d := by
  cases h with
  | non => exact .non
  | bl b => exact .bl b
  | int i => exact .int i
  | str s => exact .str s
  | tup g q r => cases f
  | lst q r => cases f
  | scr q => cases f
  | fn nm => cases f
  | ptp g q e r => cases f
  | dK q e r => cases f
  | dT q e r => cases f
  | ndc q e r m t r2 => cases f
theorem Rep.flat (f : d.flat = true) (h : Rep C.K G v d) (G' : Hp) : Rep C.K G' v d := by
  cases h with
  | non => exact .non
  | bl b => exact .bl b
  | int i => exact .int i
  | str s => exact .str s
  | tup q r => cases f
  | lst q r => cases f
  | scr q => cases f
  | fn nm => cases f
  | ptp q e r => cases f
  | dK q e r => cases f
  | dT q e r => cases f
  | ndc q e r m t r2 => cases f
theorem Grow.refl (s : Same G H) (t : ∀ P ∈ C.tt, TabC C H P) : Grow C G H G H := ⟨Same.refl G, s, fun _ _ _ => rfl, fun _ _ _ => rfl, t⟩
theorem tabG_nt {P : Addr} (h : TabC C H P) : NT (H P) := fun xs z => by
  obtain ⟨⟨ps, e, _⟩, _⟩ := h
  rw [e] at z; cases z
theorem repO_nt {p : Addr} {o : HO} (h : H p = some o) (r : RepO C.K G o d) : NT (H p) := fun xs z => by
  rw [h] at z
  cases z
  cases r
theorem nobj_ne {P : Program} {w : World} {a c : Addr} {xs : List (NestedKey × Addr × Value)} {q : Str} : HO.ext (NObj P w a xs) ≠ LamX.CodeO c q := fun z => by
  unfold LamX.CodeO at z
  have z1 := HO.ext.inj z
  let oc : Obj := { cls := .none, data := .fields #[.none, .str q 0] }
  let h : Heap := { objs := Array.replicate (c + 1) oc }
  have e1 : h.get? c = some oc := by
    simp only [h, Heap.get?, Array.getElem?_replicate]
    rw [if_pos (Nat.lt_succ_self c)]
  have e2 : NObj P w a xs h := by
    rw [z1]
    exact ⟨oc, #[.none, .str q 0], 0, e1, rfl, rfl⟩
  obtain ⟨o, es, ep, ho, _, hd, _⟩ := e2
  have e3 : o = oc := by
    simp only [h, Heap.get?, Array.getElem?_replicate] at ho
    by_cases ha : a < c + 1
    · rw [if_pos ha] at ho
      exact (Option.some.inj ho).symm
    · rw [if_neg ha] at ho
      cases ho
  rw [e3] at hd
  cases hd
theorem repO_nx {p : Addr} {o : HO} {d : D} (h : H p = some o) (r : RepO C.K G o d) : ∀ c q, H p ≠ some (LamX.CodeO c q) := fun c q z => by
  rw [h] at z
  cases r with
  | lst r => cases z
  | dK e r => cases z
  | dT e r => cases z
  | ndc e r m t r2 => exact nobj_ne (Option.some.inj z)
theorem tabG_some {P : Addr} (h : TabC C H P) : H P ≠ none := by
  obtain ⟨⟨ps, e, _⟩, _⟩ := h
  rw [e]; exact fun z => nomatch z
theorem Rel.tabs (R : Rel C F G0 G H pn σ e) : ∀ P ∈ C.tt, TabC C H P := fun P h => (R.tb P h).1
theorem grow_new {p : Addr} {o : HO} (s : Same G H) (t : ∀ P ∈ C.tt, TabC C H P) (hp : H p = none) : Grow C G H (upd G p o) (upd H p o) := by
  have gp : G p = none := s.free hp
  refine ⟨fun b u h => by rw [upd_ne (ne_of_none h gp)]; exact h, fun b u h => ?_, fun b h _ => ?_, fun b h _ => ?_, fun P hP => ?_⟩
  · by_cases e : b = p
    · rw [e, upd_same] at h; rw [e, upd_same]; exact h
    · rw [upd_ne e] at h ⊢; exact s b u h
  · exact upd_ne (fun e => h (e ▸ hp))
  · exact upd_ne (fun e => h (e ▸ hp))
  · have t1 := t P hP
    have hn : H P ≠ none := tabG_some t1
    refine t1.keep (upd_ne fun z => hn (by rw [z]; exact hp)) fun c φ e => ?_
    rw [upd_ne (ne_of_none e hp)]; exact e
theorem grow_own {p : Addr} {o : HO} (s : Same G H) (t : ∀ P ∈ C.tt, TabC C H P) (hp : H p = none) : Grow C G H G (upd H p o) := by
  have gp : G p = none := s.free hp
  refine ⟨Same.refl G, fun b u h => by rw [upd_ne (ne_of_none h gp)]; exact s b u h, fun b h _ => upd_ne (fun e => h (e ▸ hp)), fun b _ _ => rfl, fun P hP => ?_⟩
  have t1 := t P hP
  have hn : H P ≠ none := tabG_some t1
  refine t1.keep (upd_ne fun z => hn (by rw [z]; exact hp)) fun c φ e => ?_
  rw [upd_ne (ne_of_none e hp)]; exact e
theorem Rel.grow (R : Rel C F G0 G H pn σ e) (g : Grow C G H G' H') : Rel C F G0 G' H' pn σ e := by
  have fs : ∀ p, F p ≠ none → H p ≠ none := fun p h => by
    cases q : F p with
    | none => exact absurd q h
    | some o => rw [R.fh p o q]; exact fun z => nomatch z
  have fe : ∀ p, F p ≠ none → H p = F p := fun p h => by
    cases q : F p with
    | none => exact absurd q h
    | some o => exact R.fh p o q
  refine ⟨fun p o h => ?_, g.gh, fun p h hn => by rw [g.go p (fs p h) (by rw [fe p h]; exact hn)]; exact R.gf p h hn, fun P hP => ⟨g.tb P hP, ?_, (R.tb P hP).2.2⟩, fun i b hb => ?_, R.ap, fun i nm fs hb => ?_, R.fp, R.pi, R.ln⟩
  · have hne : p ∉ C.tt := fun z => by rw [(R.tb p z).2.2] at h; cases h
    rw [g.hh p (by rw [R.fh p o h]; exact fun z => nomatch z) hne]
    exact R.fh p o h
  · rw [g.go P (tabG_some (R.tb P hP).1) (tabG_nt (R.tb P hP).1)]; exact (R.tb P hP).2.1
  · have q := R.sl i b hb
    have ow : ∀ {p : Addr} {o : HO} {d : D}, G p = none → F p = none → p ∉ C.tt → H p = some o → RepO C.K G o d → G' p = none ∧ H' p = some o ∧ RepO C.K G' o d := fun {p o d} h1 h2 h3 h4 h5 => by
      have hs : H p ≠ none := by rw [h4]; exact fun z => nomatch z
      exact ⟨by rw [g.go p hs (repO_nt h4 h5)]; exact h1, by rw [g.hh p hs h3]; exact h4, h5.mono g.gg⟩
    cases b with
    | un => trivial
    | im d =>
      obtain ⟨v, h1, h2⟩ := q
      exact ⟨v, h1, h2.mono g.gg⟩
    | ow d =>
      obtain ⟨p, o, h0, h1, h2, h3, h4, h5⟩ := q
      obtain ⟨k1, k2, k3⟩ := ow h1 h2 h3 h4 h5
      exact ⟨p, o, h0, k1, h2, h3, k2, k3⟩
    | io d =>
      obtain ⟨p, o, h0, h1, h2, h3, h4, h5⟩ := q
      obtain ⟨k1, k2, k3⟩ := ow h1 h2 h3 h4 h5
      exact ⟨p, o, h0, k1, h2, h3, k2, k3⟩
    | ob nm fs => trivial
    | fr d =>
      obtain ⟨p, o, h0, h1, h2, h3⟩ := q
      have h4 := R.fh p o h2
      exact ⟨p, o, h0, by rw [g.go p (by rw [h4]; exact fun z => nomatch z) (repO_nt h4 h3)]; exact h1, h2, h3.mono g.gg⟩
  · obtain ⟨p, k1, k2⟩ := R.ob i nm fs hb
    exact ⟨p, k1, k2.keep (by rw [g.go p k2.ne k2.nt]; exact k2.1) k2.2.1 (g.hh p k2.ne k2.2.2.1) g.gg PinK.refl⟩
theorem RepR.mono (s : Same G G') {r : Rv} (h : RepR C.K G σ e r v) : RepR C.K G' σ e r v := by
  cases r with
  | pers d => exact Rep.mono s d v h
  | bor i => exact h
structure Kept (e e' : Env') : Prop where
  da : ∀ (i : Nat) (b : B) (d : D), e[i]? = some b → b.data = some d → ∃ (b' : B) (d' : D), e'[i]? = some b' ∧ b'.data = some d'
  fg : ∀ (i : Nat) (f : Fk) (g : Nat), fldG e i f = some g → fldG e' i f = some g
  np : ∀ (i : Nat) (b' : B), e'[i]? = some b' → b'.pin = true → ∃ b, e[i]? = some b ∧ b.pin = true
theorem Kept.refl (e : Env') : Kept e e := ⟨fun i b d h q => ⟨b, d, h, q⟩, fun _ _ _ h => h, fun i b h q => ⟨b, h, q⟩⟩
theorem Kept.trans {e1 e2 e3 : Env'} (a : Kept e1 e2) (b : Kept e2 e3) : Kept e1 e3 := ⟨fun i x d h q => by
  obtain ⟨y, d', h', q'⟩ := a.da i x d h q
  exact b.da i y d' h' q', fun i f g h => b.fg i f g (a.fg i f g h), fun i y h q => by
  obtain ⟨x, h', q'⟩ := b.np i y h q
  exact a.np i x h' q'⟩
theorem fldG_at {i : Nat} {f : Fk} {g : Nat} (h : fldG e i f = some g) : ∃ nm fs, e[i]? = some (.ob nm fs) ∧ nm = f.1 ∧ fs.lookup f.2 = some (.gh g) := by
  unfold fldG at h
  split at h
  · rename_i nm fs he
    split at h
    · rename_i hn
      split at h
      · rename_i g' hg
        cases h
        exact ⟨nm, fs, he, hn, hg⟩
      · cases h
    · cases h
  · cases h
theorem fldG_of {i : Nat} {f : Fk} {g : Nat} {nm : Str} {fs : List (Str × FD)} (he : e[i]? = some (.ob nm fs)) (hn : nm = f.1) (hf : fs.lookup f.2 = some (.gh g)) : fldG e i f = some g := by
  unfold fldG
  rw [he]
  dsimp only
  rw [if_pos hn, hf]
theorem Kept.set {b : B} {d : D} {i : Nat} (hb : b.data = some d) (hn : ∀ nm fs, e[i]? ≠ some (.ob nm fs)) (hp : b.pin = true → ∃ b0, e[i]? = some b0 ∧ b0.pin = true := by intro z; cases z) : Kept e (e.set i b) := ⟨fun j x d' h q => by
  by_cases hj : i = j
  · subst hj
    refine ⟨b, d, ?_, hb⟩
    rw [List.getElem?_set_self (List.getElem?_eq_some_iff.mp h).1]
  · exact ⟨x, d', by rw [List.getElem?_set_ne hj]; exact h, q⟩, fun j f g h => by
  obtain ⟨nm, fs, h1, hn2, h2⟩ := fldG_at h
  have hj : i ≠ j := fun z => by
    subst z
    exact hn _ _ h1
  exact fldG_of (by rw [List.getElem?_set_ne hj]; exact h1) hn2 h2, fun j x h q => by
  by_cases hj : i = j
  · subst hj
    have hl := (List.getElem?_eq_some_iff.mp h).1
    rw [List.length_set] at hl
    rw [List.getElem?_set_self hl] at h
    cases h
    exact hp q
  · rw [List.getElem?_set_ne hj] at h
    exact ⟨x, h, q⟩⟩
theorem RepR.env {r : Rv} (k : Kept e e') (h : RepR C.K G σ e r v) : RepR C.K G σ e' r v := by
  cases r with
  | pers d => exact h
  | bor i =>
    obtain ⟨h1, b, d, h2, h3⟩ := h
    obtain ⟨b', d', h4, h5⟩ := k.da i b d h2 h3
    exact ⟨h1, b', d', h4, h5⟩
theorem repO_top {a : Addr} {o : HO} (h : H a = some o) (r : RepO C.K G o d) : RepT C.K G H (.ref a) d := by
  cases r with
  | lst r => exact .lst h r
  | dK e r => exact .dK (.inl h) e r
  | dT e r => exact .dT (.inl h) e r
  | ndc e r m t r2 => exact .ndc (.inl h) e r m t r2
theorem Rel.get (R : Rel C F G0 G H pn σ e) {r : Rv} (h : RepR C.K G σ e r v) (g : r.get e = some d) : RepT C.K G H v d := by
  cases r with
  | pers d' =>
    have q : d' = d := Option.some.inj g
    subst q
    exact Rep.top R.gh h
  | bor i =>
    obtain ⟨h1, b, d', h2, h3⟩ := h
    have q := R.sl i b h2
    have g' : b.data = some d := by
      have g2 : (match e[i]? with
        | some b => (match b.data with
          | some (.lst l) => some (.lst l)
          | some (.dic k v) => some (.dic k v)
          | some (.ndc k v) => some (.ndc k v)
          | _ => none)
        | none => none) = some d := g
      rw [h2] at g2
      dsimp only at g2
      split at g2
      · rename_i l hl; rw [hl]; exact g2
      · rename_i k v hl; rw [hl]; exact g2
      · rename_i k v hl; rw [hl]; exact g2
      · cases g2
    rw [h1] at q
    cases b with
    | un => cases g'
    | im d2 =>
      cases g'
      obtain ⟨v2, e2, r2⟩ := q
      cases e2
      exact Rep.top R.gh r2
    | ow d2 =>
      cases g'
      obtain ⟨p, o, e2, _, _, _, h4, h5⟩ := q
      cases e2
      exact repO_top h4 h5
    | io d2 =>
      cases g'
      obtain ⟨p, o, e2, _, _, _, h4, h5⟩ := q
      cases e2
      exact repO_top h4 h5
    | ob nm fs => cases g'
    | fr d2 =>
      cases g'
      obtain ⟨p, o, e2, _, h4, h5⟩ := q
      cases e2
      exact repO_top (R.fh _ _ h4) h5
theorem get_flat {r : Rv} (h : r.get e = some d) (f : d.flat = true) : r = .pers d := by
  cases r with
  | pers x => cases h; rfl
  | bor i =>
    have g2 : (match e[i]? with
      | some b => (match b.data with
        | some (.lst l) => some (.lst l)
        | some (.dic k v) => some (.dic k v)
        | some (.ndc k v) => some (.ndc k v)
        | _ => none)
      | none => none) = some d := h
    split at g2
    · split at g2
      · cases g2; cases f
      · cases g2; cases f
      · cases g2; cases f
      · cases g2
    · cases g2
inductive RepRs (K : FragW) (G : Hp) (σ : St) (e : Env') : List Rv → List V → Prop
  | nil : RepRs K G σ e [] []
  | cons {r : Rv} {v : V} {rs : List Rv} {vs : List V} : RepR K G σ e r v → RepRs K G σ e rs vs → RepRs K G σ e (r :: rs) (v :: vs)
inductive RepTs (K : FragW) (G H : Hp) : List V → List D → Prop
  | nil : RepTs K G H [] []
  | cons {v : V} {d : D} {vs : List V} {ds : List D} : RepT K G H v d → RepTs K G H vs ds → RepTs K G H (v :: vs) (d :: ds)
theorem RepRs.mono (s : Same G G') : ∀ {rs : List Rv} {vs : List V}, RepRs C.K G σ e rs vs → RepRs C.K G' σ e rs vs
  | _, _, .nil => .nil
  | _, _, .cons a b => .cons (a.mono s) (b.mono s)
theorem RepRs.env (k : Kept e e') : ∀ {rs : List Rv} {vs : List V}, RepRs C.K G σ e rs vs → RepRs C.K G σ e' rs vs
  | _, _, .nil => .nil
  | _, _, .cons a b => .cons (a.env k) (b.env k)
theorem Rel.gets (R : Rel C F G0 G H pn σ e) : ∀ {rs : List Rv} {vs : List V} {ds : List D}, RepRs C.K G σ e rs vs → Mi.gets e rs = some ds → RepTs C.K G H vs ds
  | [], _, ds, h, g => by
    cases h
    cases g
    exact .nil
  | r :: rs, _, ds, h, g => by
    cases h with
    | cons a b =>
      unfold Mi.gets at g
      cases q : r.get e with
      | none => rw [q] at g; cases g
      | some d =>
        rw [q] at g
        cases q2 : Mi.gets e rs with
        | none => rw [q2] at g; cases g
        | some ds' =>
          rw [q2] at g
          cases g
          exact .cons (R.get a q) (Rel.gets R b q2)
theorem Rel.freeze (R : Rel C F G0 G H pn σ e) {i : Nat} {p : Addr} (hs : σ[i]? = some (some (.ref p))) (he : e[i]? = some (.ow d)) :
    ∃ G', Same G G' ∧ Rel C F G0 G' H pn σ (e.set i (.im d)) ∧ Rep C.K G' (.ref p) d := by
  have q := R.sl i _ he
  rw [hs] at q
  obtain ⟨p', o, e2, h1, h2, h3, h4, h5⟩ := q
  cases e2
  have hi : i < e.length := (List.getElem?_eq_some_iff.mp he).1
  have s : Same G (upd G p o) := fun b u h => by rw [upd_ne (ne_of_none h h1)]; exact h
  have rp : Rep C.K (upd G p o) (.ref p) d := by
    have q : Same (upd G p o) H := fun b u h => by
      by_cases e : b = p
      · rw [e, upd_same] at h; rw [e, h4]; exact h
      · rw [upd_ne e] at h; exact R.gh b u h
    cases h5 with
    | lst r => exact .lst upd_same (r.mono s)
    | dK e r => exact .dK (.inl upd_same) e (r.mono s)
    | dT e r => exact .dT (.inl upd_same) e (r.mono s)
    | ndc e r m t r2 => exact .ndc (.inl upd_same) e (r.mono s) m t (r2.mono s)
  have ow0 : Own σ e i p := ⟨hs, _, he, rfl⟩
  have pk : PinK σ e σ (e.set i (.im d)) := PinK.set he (.inl rfl)
  refine ⟨upd G p o, s, ⟨R.fh, fun b u h => ?_, fun b h hn => ?_, fun P hP => ⟨(R.tb P hP).1, ?_, (R.tb P hP).2.2⟩, fun j b hb => ?_, fun j k a ⟨a1, b1, a2, a3⟩ ⟨b1', b2, b3, b4⟩ => ?_, fun j nm fs hb => ?_, fun j x hx => R.fp j x (set_fr hx (fun _ z => nomatch z)), fun j a ha => ?_, by rw [List.length_set]; exact R.ln⟩, rp⟩
  · by_cases e : b = p
    · rw [e, upd_same] at h; rw [e, h4]; exact h
    · rw [upd_ne e] at h; exact R.gh b u h
  · rw [upd_ne (fun z => h (by rw [z]; exact h2))]; exact R.gf b h hn
  · rw [upd_ne (fun z => h3 (by rw [← z]; exact hP))]; exact (R.tb P hP).2.1
  · by_cases hj : i = j
    · subst hj
      rw [List.getElem?_set_self hi] at hb
      cases hb
      exact ⟨_, hs, rp⟩
    · rw [List.getElem?_set_ne hj] at hb
      have q := R.sl j b hb
      have far : ∀ {p' : Addr}, σ[j]? = some (some (.ref p')) → b.isOw = true → p' ≠ p := fun {p'} a1 a2 z => by
        subst z
        exact hj (R.ap i j p' ow0 ⟨a1, b, hb, a2⟩)
      cases b with
      | un => trivial
      | im d' =>
        obtain ⟨v, k1, k2⟩ := q
        exact ⟨v, k1, k2.mono s⟩
      | ow d' =>
        obtain ⟨p', o', k0, k1, k2, k3, k4, k5⟩ := q
        exact ⟨p', o', k0, by rw [upd_ne (far k0 rfl)]; exact k1, k2, k3, k4, k5.mono s⟩
      | io d' =>
        obtain ⟨p', o', k0, k1, k2, k3, k4, k5⟩ := q
        exact ⟨p', o', k0, by rw [upd_ne (far k0 rfl)]; exact k1, k2, k3, k4, k5.mono s⟩
      | ob nm fs => trivial
      | fr d' =>
        obtain ⟨p', o', k0, k1, k2, k3⟩ := q
        exact ⟨p', o', k0, by rw [upd_ne (fun z => by rw [z, h2] at k2; cases k2)]; exact k1, k2, k3.mono s⟩
  · have back : ∀ {j : Nat} {b : B}, (e.set i (.im d))[j]? = some b → b.isOw = true → e[j]? = some b := fun {j b} hb ho => by
      by_cases hj : i = j
      · subst hj
        rw [List.getElem?_set_self hi] at hb
        cases hb
        cases ho
      · rw [List.getElem?_set_ne hj] at hb; exact hb
    exact R.ap j k a ⟨a1, b1, back a2 a3, a3⟩ ⟨b1', b2, back b3 b4, b4⟩
  · have hj : i ≠ j := fun z => by
      subst z
      rw [List.getElem?_set_self hi] at hb
      cases hb
    rw [List.getElem?_set_ne hj] at hb
    obtain ⟨p', k1, k2⟩ := R.ob j nm fs hb
    have hp : p' ≠ p := fun z => by
      subst z
      exact hj (R.ap i j p' ow0 ⟨k1, _, hb, rfl⟩)
    exact ⟨p', k1, k2.keep (by rw [upd_ne hp]; exact k2.1) k2.2.1 rfl s pk⟩
  · obtain ⟨k1, b', k2, k3⟩ := R.pi j a ha
    obtain ⟨_, b2, k4, k5⟩ := pk j b' a k2 k3 k1
    exact ⟨k1, b2, k4, k5⟩
theorem Rel.settle (R : Rel C F G0 G H pn σ e) {r : Rv} (h : RepR C.K G σ e r v) (g : r.settle e = some (d, e')) :
    ∃ G', Same G G' ∧ Rel C F G0 G' H pn σ e' ∧ Rep C.K G' v d ∧ Kept e e' := by
  cases r with
  | pers d' =>
    cases g
    exact ⟨G, Same.refl G, R, h, Kept.refl e⟩
  | bor i =>
    obtain ⟨h1, b, d', h2, h3⟩ := h
    have g' : (match e[i]? with
      | some (.im d) => some (d, e)
      | some (.ow d) => some (d, e.set i (.im d))
      | _ => none) = some (d, e') := g
    rw [h2] at g'
    have q := R.sl i b h2
    rw [h1] at q
    cases b with
    | un => cases g'
    | im d2 =>
      cases g'
      obtain ⟨v2, e2, r2⟩ := q
      cases e2
      exact ⟨G, Same.refl G, R, r2, Kept.refl e⟩
    | ow d2 =>
      cases g'
      obtain ⟨p, o, e2, _⟩ := q
      cases e2
      obtain ⟨G', s, R', rp⟩ := R.freeze h1 h2
      exact ⟨G', s, R', rp, Kept.set rfl (fun nm fs z => by rw [h2] at z; cases z)⟩
    | io d2 => cases g'
    | ob nm fs => cases g'
    | fr d2 => cases g'
theorem Rel.settles : ∀ {rs : List Rv} {vs : List V} {ds : List D} {e' : Env'} {G : Hp} {e : Env'}, Rel C F G0 G H pn σ e → RepRs C.K G σ e rs vs → Mi.settles e rs = some (ds, e') →
    ∃ G', Same G G' ∧ Rel C F G0 G' H pn σ e' ∧ RepL C.K G' vs ds ∧ Kept e e'
  | [], _, _, _, G, e, R, h, g => by
    cases h
    cases g
    exact ⟨G, Same.refl G, R, .nil, Kept.refl _⟩
  | r :: rs, _, ds, e', G, e, R, h, g => by
    cases h with
    | cons a b =>
      unfold Mi.settles at g
      cases q : r.settle e with
      | none => rw [q] at g; cases g
      | some x =>
        obtain ⟨d, e1⟩ := x
        rw [q] at g
        cases q2 : Mi.settles e1 rs with
        | none => simp only [q2] at g; cases g
        | some y =>
          obtain ⟨ds', e2⟩ := y
          simp only [q2] at g
          cases g
          obtain ⟨G1, s1, R1, r1, k1⟩ := R.settle a q
          obtain ⟨G2, s2, R2, r2, k2⟩ := Rel.settles R1 ((b.mono s1).env k1) q2
          exact ⟨G2, s1.trans s2, R2, .cons (r1.mono s2) r2, k1.trans k2⟩
end
end Mi
namespace Mi
open PySem PySem.Spec PyProof.Rows L2 GxR
structure KeptOff (vs : List Nat) (e e' : Env') : Prop where
  da : ∀ (i : Nat), i ∉ vs → ∀ (b : B) (d : D), e[i]? = some b → b.data = some d → ∃ (b' : B) (d' : D), e'[i]? = some b' ∧ b'.data = some d'
  fg : ∀ (i : Nat), i ∉ vs → ∀ (f : Fk) (g : Nat), fldG e i f = some g → fldG e' i f = some g
  np : ∀ (i : Nat), i ∉ vs → ∀ (b' : B), e'[i]? = some b' → b'.pin = true → ∃ b, e[i]? = some b ∧ b.pin = true
theorem Kept.off {e e' : Env'} (k : Kept e e') (vs : List Nat) : KeptOff vs e e' := ⟨fun i _ b d h q => k.da i b d h q, fun i _ f g h => k.fg i f g h, fun i _ b h q => k.np i b h q⟩
theorem KeptOff.trans {vs : List Nat} {a b c : Env'} (h : KeptOff vs a b) (g : KeptOff vs b c) : KeptOff vs a c := ⟨fun i hi x d h1 h2 => by
  obtain ⟨y, d', h3, h4⟩ := h.da i hi x d h1 h2
  exact g.da i hi y d' h3 h4, fun i hi f n h1 => g.fg i hi f n (h.fg i hi f n h1), fun i hi y h1 h2 => by
  obtain ⟨x, h3, h4⟩ := g.np i hi y h1 h2
  exact h.np i hi x h3 h4⟩
theorem KeptOff.refl (vs : List Nat) (e : Env') : KeptOff vs e e := (Kept.refl e).off vs
theorem fldG_congr {e e' : Env'} {i : Nat} {f : Fk} (h : e'[i]? = e[i]?) : fldG e' i f = fldG e i f := by
  unfold fldG; rw [h]
theorem wipeE_off {e : Env'} {i : Nat} : ∀ {vs : List Nat}, i ∉ vs → (wipeE e vs)[i]? = e[i]?
  | [], _ => rfl
  | v :: vs, h => by
    unfold wipeE
    have h' : i ≠ v ∧ i ∉ vs := ⟨fun z => h (by rw [z]; exact List.mem_cons_self), fun z => h (List.mem_cons_of_mem _ z)⟩
    rw [List.getElem?_set_ne (fun z => h'.1 z.symm)]
    exact wipeE_off h'.2
theorem wipeE_len {e : Env'} : ∀ vs : List Nat, (wipeE e vs).length = e.length
  | [] => rfl
  | v :: vs => by unfold wipeE; rw [List.length_set]; exact wipeE_len vs
theorem wipeE_in {e : Env'} {i : Nat} {b : B} : ∀ {vs : List Nat}, i ∈ vs → (wipeE e vs)[i]? = some b → b = .un
  | v :: vs, h, q => by
    unfold wipeE at q
    by_cases hv : v = i
    · subst hv
      have hl := (List.getElem?_eq_some_iff.mp q).1
      rw [List.length_set] at hl
      rw [List.getElem?_set_self hl] at q
      exact (Option.some.inj q).symm
    · rw [List.getElem?_set_ne hv] at q
      rcases List.mem_cons.mp h with z | z
      · exact absurd z.symm hv
      · exact wipeE_in z q
theorem wipeE_kept {e : Env'} (vs : List Nat) : KeptOff vs e (wipeE e vs) := ⟨fun i hi b d h q => ⟨b, d, by rw [wipeE_off hi]; exact h, q⟩, fun i hi f g h => by rw [fldG_congr (wipeE_off hi)]; exact h, fun i hi b h q => ⟨b, by rw [← wipeE_off hi]; exact h, q⟩⟩
theorem backE_off {e0 e : Env'} {i : Nat} : ∀ {vs : List Nat}, i ∉ vs → (backE e0 e vs)[i]? = e[i]?
  | [], _ => rfl
  | v :: vs, h => by
    have h' : i ≠ v ∧ i ∉ vs := ⟨fun z => h (by rw [z]; exact List.mem_cons_self), fun z => h (List.mem_cons_of_mem _ z)⟩
    unfold backE
    cases q : e0[v]? with
    | none => exact backE_off h'.2
    | some b =>
      show ((backE e0 e vs).set v b)[i]? = e[i]?
      rw [List.getElem?_set_ne (fun z => h'.1 z.symm)]
      exact backE_off h'.2
theorem backE_len {e0 e : Env'} : ∀ vs : List Nat, (backE e0 e vs).length = e.length
  | [] => rfl
  | v :: vs => by
    unfold backE
    cases q : e0[v]? with
    | none => exact backE_len vs
    | some b =>
      show ((backE e0 e vs).set v b).length = e.length
      rw [List.length_set]
      exact backE_len vs
theorem backE_in {e0 e : Env'} {i : Nat} {b : B} (hl : e0.length = e.length) : ∀ {vs : List Nat}, i ∈ vs → e0[i]? = some b → (backE e0 e vs)[i]? = some b
  | v :: vs, h, q => by
    have hi : i < e.length := by rw [← hl]; exact (List.getElem?_eq_some_iff.mp q).1
    unfold backE
    by_cases hv : v = i
    · subst hv
      rw [q]
      show ((backE e0 e vs).set v b)[v]? = some b
      rw [List.getElem?_set_self (by rw [backE_len]; exact hi)]
    · rcases List.mem_cons.mp h with z | z
      · exact absurd z.symm hv
      · cases q2 : e0[v]? with
        | none => exact backE_in hl z q
        | some b2 =>
          show ((backE e0 e vs).set v b2)[i]? = some b
          rw [List.getElem?_set_ne hv]
          exact backE_in hl z q
theorem settle_kept {e e' : Env'} {r : Rv} {d : D} (h : r.settle e = some (d, e')) : Kept e e' ∧ e'.length = e.length := by
  cases r with
  | pers x => cases h; exact ⟨Kept.refl e, rfl⟩
  | bor i =>
    have g' : (match e[i]? with
      | some (.im d) => some (d, e)
      | some (.ow d) => some (d, e.set i (.im d))
      | _ => none) = some (d, e') := h
    cases q : e[i]? with
    | none => rw [q] at g'; cases g'
    | some b =>
      rw [q] at g'
      cases b with
      | un => cases g'
      | im x => cases g'; exact ⟨Kept.refl e, rfl⟩
      | ow x => cases g'; exact ⟨Kept.set rfl (fun nm fs z => by rw [q] at z; cases z), List.length_set⟩
      | io x => cases g'
      | ob nm fs => cases g'
      | fr x => cases g'
theorem settles_kept : ∀ {rs : List Rv} {e e' : Env'} {ds : List D}, settles e rs = some (ds, e') → Kept e e' ∧ e'.length = e.length
  | [], e, e', ds, h => by cases h; exact ⟨Kept.refl e, rfl⟩
  | r :: rs, e, e', ds, h => by
    unfold settles at h
    cases q : r.settle e with
    | none => rw [q] at h; cases h
    | some x =>
      obtain ⟨d, e1⟩ := x
      rw [q] at h
      cases q2 : settles e1 rs with
      | none => simp only [q2] at h; cases h
      | some y =>
        obtain ⟨ds', e2⟩ := y
        simp only [q2] at h
        cases h
        obtain ⟨k1, l1⟩ := settle_kept q
        obtain ⟨k2, l2⟩ := settles_kept q2
        exact ⟨k1.trans k2, l2.trans l1⟩
mutual
theorem bind_kept : ∀ (t : Tg) (d : D) (e e' : Env'), t.bind d e = some e' → Kept e e' ∧ e'.length = e.length
  | .nm i, d, e, e', h => by
    unfold Tg.bind at h
    cases q : e[i]? with
    | none => rw [q] at h; cases h
    | some b =>
      rw [q] at h
      cases b with
      | io x => cases h
      | ob nm fs => cases h
      | fr x => cases h
      | un => cases h; exact ⟨Kept.set rfl (fun nm fs z => by rw [q] at z; cases z), List.length_set⟩
      | im x => cases h; exact ⟨Kept.set rfl (fun nm fs z => by rw [q] at z; cases z), List.length_set⟩
      | ow x => cases h; exact ⟨Kept.set rfl (fun nm fs z => by rw [q] at z; cases z), List.length_set⟩
  | .tp ts, .tup ds, e, e', h => binds_kept ts ds e e' (by unfold Tg.bind at h; exact h)
  | .tp ts, .non, e, e', h => by unfold Tg.bind at h; cases h
  | .tp ts, .bl _, e, e', h => by unfold Tg.bind at h; cases h
  | .tp ts, .int _, e, e', h => by unfold Tg.bind at h; cases h
  | .tp ts, .str _, e, e', h => by unfold Tg.bind at h; cases h
  | .tp ts, .lst ds, e, e', h => binds_kept ts ds e e' (by unfold Tg.bind at h; exact h)
  | .tp ts, .dic _ _, e, e', h => by unfold Tg.bind at h; cases h
  | .tp ts, .scr _, e, e', h => by unfold Tg.bind at h; cases h
  | .tp ts, .fn _, e, e', h => by unfold Tg.bind at h; cases h
  | .tp ts, .ptp _, e, e', h => by unfold Tg.bind at h; cases h
  | .tp ts, .ndc _ _, e, e', h => by unfold Tg.bind at h; cases h
theorem binds_kept : ∀ (ts : List Tg) (ds : List D) (e e' : Env'), Tg.binds ts ds e = some e' → Kept e e' ∧ e'.length = e.length
  | [], [], e, e', h => by unfold Tg.binds at h; cases h; exact ⟨Kept.refl e, rfl⟩
  | t :: ts, d :: ds, e, e', h => by
    unfold Tg.binds at h
    cases q : t.bind d e with
    | none => rw [q] at h; cases h
    | some e1 =>
      rw [q] at h
      obtain ⟨k1, l1⟩ := bind_kept t d e e1 q
      obtain ⟨k2, l2⟩ := binds_kept ts ds e1 e' h
      exact ⟨k1.trans k2, l2.trans l1⟩
  | [], _ :: _, e, e', h => by unfold Tg.binds at h; cases h
  | _ :: _, [], e, e', h => by unfold Tg.binds at h; cases h
end
theorem lcLoop_kept {vs : List Nat} {f : D → Env' → Option (List D × Env')} (hf : ∀ d e ys e', f d e = some (ys, e') → KeptOff vs e e' ∧ e'.length = e.length) :
    ∀ {ds : List D} {e e' : Env'} {ys : List D}, lcLoop f ds e = some (ys, e') → KeptOff vs e e' ∧ e'.length = e.length
  | [], e, e', ys, h => by cases h; exact ⟨KeptOff.refl vs e, rfl⟩
  | d :: ds, e, e', ys, h => by
    unfold lcLoop at h
    cases q : f d e with
    | none => rw [q] at h; cases h
    | some x =>
      obtain ⟨a, e1⟩ := x
      rw [q] at h
      cases q2 : lcLoop f ds e1 with
      | none => simp only [q2] at h; cases h
      | some y =>
        obtain ⟨c, e2⟩ := y
        simp only [q2] at h
        cases h
        obtain ⟨k1, l1⟩ := hf d e a e1 q
        obtain ⟨k2, l2⟩ := lcLoop_kept hf q2
        exact ⟨k1.trans k2, l2.trans l1⟩
def KL (e e' : Env') : Prop := Kept e e' ∧ e'.length = e.length
theorem KL.refl (e : Env') : KL e e := ⟨Kept.refl e, rfl⟩
theorem KL.trans {a b c : Env'} (h : KL a b) (g : KL b c) : KL a c := ⟨h.1.trans g.1, g.2.trans h.2⟩
theorem lcTurn_kept {tg : Tg} {vs : List Nat} {t : Env' → Option (Bool × Env')} {f : Env' → Option (Rv × Env')} (ht : ∀ e b e', t e = some (b, e') → KL e e') (hf : ∀ e r e', f e = some (r, e') → KL e e') {d : D} {e e' : Env'} {ys : List D}
    (hq : lcTurn tg vs t f d e = some (ys, e')) : KeptOff vs e e' ∧ e'.length = e.length := by
  unfold lcTurn at hq
  split at hq
  · rename_i e3 h3
    have k3 := bind_kept tg d _ _ h3
    split at hq
    · rename_i e4 h4
      have k4 := ht _ _ _ h4
      split at hq
      · rename_i r5 e5 h5
        have k5 := hf _ _ _ h5
        split at hq
        · rename_i y e6 h6
          cases hq
          have k6 := settle_kept h6
          have kk := (((show KL _ _ from k3).trans k4).trans k5).trans k6
          exact ⟨(kk.1.off vs).trans (wipeE_kept vs), by rw [wipeE_len]; exact kk.2⟩
        · cases hq
      · cases hq
    · rename_i e4 h4
      cases hq
      have kk := (show KL _ _ from k3).trans (ht _ _ _ h4)
      exact ⟨(kk.1.off vs).trans (wipeE_kept vs), by rw [wipeE_len]; exact kk.2⟩
    · cases hq
  · cases hq
theorem KeptOff.mono {vs ws : List Nat} {e e' : Env'} (h : ∀ i ∈ vs, i ∈ ws) (k : KeptOff vs e e') : KeptOff ws e e' := ⟨fun i hi => k.da i fun z => hi (h i z), fun i hi => k.fg i fun z => hi (h i z), fun i hi => k.np i fun z => hi (h i z)⟩
theorem back_kl {e2 e7 : Env'} {vs : List Nat} (kl : KeptOff vs e2 e7) (ll : e2.length = e7.length) : KL e2 (backE e2 e7 vs) := by
  have inn : ∀ {i : Nat}, i ∈ vs → (backE e2 e7 vs)[i]? = e2[i]? := fun {i} hi => by
    cases q : e2[i]? with
    | some b => exact backE_in ll hi q
    | none =>
      have h1 := List.getElem?_eq_none_iff.mp q
      exact List.getElem?_eq_none (by rw [backE_len, ← ll]; exact h1)
  refine ⟨⟨fun i b d hb hd => ?_, fun i f g h => ?_, fun i b h q => ?_⟩, by rw [backE_len]; exact ll.symm⟩
  · by_cases hi : i ∈ vs
    · exact ⟨b, d, by rw [inn hi]; exact hb, hd⟩
    · obtain ⟨b', d', h1, h2⟩ := kl.da i hi b d hb hd
      exact ⟨b', d', by rw [backE_off hi]; exact h1, h2⟩
  · by_cases hi : i ∈ vs
    · rw [fldG_congr (inn hi)]; exact h
    · rw [fldG_congr (backE_off hi)]; exact kl.fg i hi f g h
  · by_cases hi : i ∈ vs
    · exact ⟨b, by rw [← inn hi]; exact h, q⟩
    · rw [backE_off hi] at h; exact kl.np i hi b h q
theorem set_kl {e : Env'} {i : Nat} {b0 b : B} {d : D} (h0 : e[i]? = some b0) (hd : b.data = some d) (hn : ∀ nm fs, b0 ≠ .ob nm fs) (hp : b.pin = false ∨ b0.pin = true) : KL e (e.set i b) := ⟨Kept.set hd (fun nm fs z => by rw [h0] at z; exact hn nm fs (Option.some.inj z)) (fun z => by
  rcases hp with y | y
  · rw [y] at z; cases z
  · exact ⟨b0, h0, y⟩), List.length_set⟩
def NoPin (vs : List Nat) (e : Env') : Prop := ∀ (i : Nat) (b : B), e[i]? = some b → b.pin = true → i ∉ vs
theorem NoPin.kept {vs : List Nat} {e e' : Env'} (h : NoPin vs e) (k : Kept e e') : NoPin vs e' := fun i b hb hp => by
  obtain ⟨b0, h1, h2⟩ := k.np i b hb hp
  exact h i b0 h1 h2
theorem NoPin.wiped {vs : List Nat} {e : Env'} : NoPin vs (wipeE e vs) := fun i b hb hp hi => by
  rw [wipeE_in hi hb] at hp
  cases hp
def Clean (e : Env') : Prop := ∀ (i : Nat) (b : B), e[i]? = some b → b.pin = false
theorem Clean.kept {e e' : Env'} (h : Clean e) (k : Kept e e') : Clean e' := fun i b hb => by
  cases hp : b.pin with
  | false => rfl
  | true =>
    obtain ⟨b0, h1, h2⟩ := k.np i b hb hp
    rw [h i b0 h1] at h2
    cases h2
theorem Clean.wipe {vs : List Nat} {e : Env'} (h : Clean e) : Clean (wipeE e vs) := fun i b hb => by
  by_cases hi : i ∈ vs
  · rw [wipeE_in hi hb]; rfl
  · rw [wipeE_off hi] at hb; exact h i b hb
theorem NoPin.sub {vs ws : List Nat} {e : Env'} (h : NoPin vs e) (k : ∀ i ∈ ws, i ∈ vs) : NoPin ws e := fun i b hb hp hi => h i b hb hp (k i hi)
theorem objPut_len : ∀ {fs : List (Str × FD)} {ds : List D} {e e' : Env'} {fs' : List (Str × FD)}, objPut fs ds e = some (fs', e') → e'.length = e.length
  | [], [], e, e', fs', h => by cases h; rfl
  | [], _ :: _, _, _, _, h => by unfold objPut at h; cases h
  | (f, .dat d0) :: fs, [], _, _, _, h => by unfold objPut at h; cases h
  | (f, .gh g) :: fs, [], _, _, _, h => by unfold objPut at h; cases h
  | (f, .dat d0) :: fs, d :: ds, e, e', fs', h => by
    unfold objPut at h
    split at h
    · rename_i fs2 e2 q
      cases h
      exact objPut_len q
    · cases h
  | (f, .gh g) :: fs, d :: ds, e, e', fs', h => by
    unfold objPut at h
    split at h
    · rename_i fs2 e2 q
      cases h
      rw [List.length_set]
      exact objPut_len q
    · cases h
theorem objPut_lk : ∀ {fs : List (Str × FD)} {ds : List D} {e e' : Env'} {fs' : List (Str × FD)} {f : Str} {g : Nat}, objPut fs ds e = some (fs', e') → fs.lookup f = some (.gh g) → fs'.lookup f = some (.gh g)
  | [], [], e, e', fs', f, g, h, hl => by cases hl
  | [], _ :: _, _, _, _, _, _, h, _ => by unfold objPut at h; cases h
  | (f0, .dat d0) :: fs, [], _, _, _, _, _, h, _ => by unfold objPut at h; cases h
  | (f0, .gh g0) :: fs, [], _, _, _, _, _, h, _ => by unfold objPut at h; cases h
  | (f0, .dat d0) :: fs, d :: ds, e, e', fs', f, g, h, hl => by
    unfold objPut at h
    split at h
    · rename_i fs2 e2 q
      cases h
      rw [List.lookup_cons] at hl ⊢
      split at hl
      · cases hl
      · exact objPut_lk q hl
    · cases h
  | (f0, .gh g0) :: fs, d :: ds, e, e', fs', f, g, h, hl => by
    unfold objPut at h
    split at h
    · rename_i fs2 e2 q
      cases h
      rw [List.lookup_cons] at hl ⊢
      split at hl
      · exact hl
      · exact objPut_lk q hl
    · cases h
theorem objPut_at : ∀ {fs : List (Str × FD)} {l ds : List D} {e e' : Env'} {fs' : List (Str × FD)}, objD e fs = some l → objPut fs ds e = some (fs', e') → ∀ j : Nat, e'[j]? = e[j]? ∨ ∃ d d', e[j]? = some (B.io d) ∧ e'[j]? = some (B.io d')
  | [], l, [], e, e', fs', _, h, j => by cases h; exact .inl rfl
  | [], _, _ :: _, _, _, _, _, h, _ => by unfold objPut at h; cases h
  | (f0, .dat d0) :: fs, _, [], _, _, _, _, h, _ => by unfold objPut at h; cases h
  | (f0, .gh g0) :: fs, _, [], _, _, _, _, h, _ => by unfold objPut at h; cases h
  | (f0, .dat d0) :: fs, l, d :: ds, e, e', fs', ho, h, j => by
    unfold objPut at h
    unfold objD at ho
    split at h
    · rename_i fs2 e2 q
      cases h
      split at ho
      · rename_i ds2 q2
        exact objPut_at q2 q j
      · cases ho
    · cases h
  | (f0, .gh g0) :: fs, l, d :: ds, e, e', fs', ho, h, j => by
    unfold objPut at h
    unfold objD at ho
    split at h
    · rename_i fs2 e2 q
      cases h
      split at ho
      · rename_i dg hg
        split at ho
        · rename_i ds2 q2
          have ih := objPut_at q2 q j
          by_cases hj : g0 = j
          · subst hj
            have hl : g0 < e2.length := by
              rw [objPut_len q]; exact (List.getElem?_eq_some_iff.mp hg).1
            exact .inr ⟨dg, d, hg, List.getElem?_set_self hl⟩
          · rw [List.getElem?_set_ne hj]; exact ih
        · cases ho
      · cases ho
    · cases h
theorem callM_kl {nm : Str} {fs fs' : List (Str × FD)} {i : Nat} {e e3 : Env'} {l l' : List D} (hb : e[i]? = some (.ob nm fs)) (ho : objD e fs = some l) (hp : objPut fs l' e = some (fs', e3)) : KL e (e3.set i (.ob nm fs')) := by
  have hi : i < e.length := (List.getElem?_eq_some_iff.mp hb).1
  have hl := objPut_len hp
  refine ⟨⟨fun j b d hj hd => ?_, fun j f g h => ?_, fun j b h q => ?_⟩, by rw [List.length_set]; exact hl⟩
  · by_cases hij : i = j
    · subst hij
      rw [hb] at hj
      cases hj
      cases hd
    · rw [List.getElem?_set_ne hij]
      rcases objPut_at ho hp j with z | ⟨d1, d2, z1, z2⟩
      · exact ⟨b, d, by rw [z]; exact hj, hd⟩
      · exact ⟨_, d2, z2, rfl⟩
  · by_cases hij : i = j
    · subst hij
      obtain ⟨nm2, fs2, h1, hn2, h2⟩ := fldG_at h
      rw [hb] at h1
      cases h1
      exact fldG_of (List.getElem?_set_self (by rw [hl]; exact hi)) hn2 (objPut_lk hp h2)
    · rcases objPut_at ho hp j with z | ⟨d1, d2, z1, z2⟩
      · rw [fldG_congr ((List.getElem?_set_ne hij).trans z)]; exact h
      · obtain ⟨nm2, fs2, h1, _, h2⟩ := fldG_at h
        rw [z1] at h1
        cases h1
  · by_cases hij : i = j
    · subst hij
      exact ⟨_, hb, rfl⟩
    · rw [List.getElem?_set_ne hij] at h
      rcases objPut_at ho hp j with z | ⟨d1, d2, z1, z2⟩
      · exact ⟨b, by rw [← z]; exact h, q⟩
      · exact ⟨_, z1, rfl⟩
theorem settlesL_kl : ∀ {fl : List Bool} {rs : List Rv} {ds : List (Option D)} {e e' : Env'}, settlesL fl rs e = some (ds, e') → KL e e'
  | [], [], ds, e, e', h => by cases h; exact KL.refl e
  | [], _ :: _, _, _, _, h => by unfold settlesL at h; cases h
  | true :: fl, [], _, _, _, h => by unfold settlesL at h; cases h
  | false :: fl, [], _, _, _, h => by unfold settlesL at h; cases h
  | true :: fl, r :: rs, ds, e, e', h => by
    unfold settlesL at h
    split at h
    · rename_i ds2 e2 q
      cases h
      exact settlesL_kl q
    · cases h
  | false :: fl, r :: rs, ds, e, e', h => by
    unfold settlesL at h
    split at h
    · rename_i d e1 q
      split at h
      · rename_i ds2 e2 q2
        cases h
        exact (show KL _ _ from settle_kept q).trans (settlesL_kl q2)
      · cases h
    · cases h
theorem lc2Turn_kept {tg tg2 : Tg} {vs vs1 : List Nat} (hv : ∀ i ∈ vs1, i ∈ vs) {t1 t : Env' → Option (Bool × Env')} {it : Env' → Option (List D × Env')} {f : Env' → Option (Rv × Env')} (ht1 : ∀ e b e', t1 e = some (b, e') → KL e e') (hit : ∀ e l e', it e = some (l, e') → KL e e')
    (ht : ∀ e b e', t e = some (b, e') → KL e e') (hf : ∀ e r e', f e = some (r, e') → KL e e') {d : D} {e e' : Env'} {ys : List D} (hq : lc2Turn tg vs vs1 tg2 t1 it t f d e = some (ys, e')) : KeptOff vs e e' ∧ e'.length = e.length := by
  unfold lc2Turn at hq
  split at hq
  · rename_i e3 h3
    have k3 : KL e e3 := bind_kept tg d _ _ h3
    split at hq
    · rename_i e4 h4
      have k4 := ht1 _ _ _ h4
      split at hq
      · rename_i items e6 h6
        have k6 := hit _ _ _ h6
        split at hq
        · split at hq
          · rename_i ys' e7 h7
            cases hq
            have kl : KeptOff vs1 (wipeE e6 vs1) e7 ∧ e7.length = (wipeE e6 vs1).length := lcLoop_kept (vs := vs1) (fun d ea ya eb hq => lcTurn_kept ht hf hq) h7
            have kk := (k3.trans k4).trans k6
            refine ⟨((kk.1.off vs).trans (((wipeE_kept vs1).trans kl.1).mono hv)).trans (wipeE_kept vs), ?_⟩
            rw [wipeE_len, kl.2, wipeE_len]
            exact kk.2
          · cases hq
        · cases hq
      · cases hq
    · rename_i e4 h4
      cases hq
      have kk := k3.trans (ht1 _ _ _ h4)
      exact ⟨(kk.1.off vs).trans (wipeE_kept vs), by rw [wipeE_len]; exact kk.2⟩
    · cases hq
  · cases hq
mutual
theorem ev_kept : ∀ (x : Ex) (e e' : Env') (r : Rv), ev x e = some (r, e') → KL e e'
  | .cst d, e, e', r, h => by unfold ev at h; cases h; exact KL.refl e
  | .var i, e, e', r, h => by
    unfold ev at h
    split at h <;> cases h <;> exact KL.refl e
  | .op f as, e, e', r, h => by
    unfold ev at h
    split at h
    · rename_i rs e1 q
      split at h
      · split at h
        · cases h; exact evs_kept as _ _ _ q
        · cases h
      · cases h
    · cases h
  | .mk f as, e, e', r, h => by
    unfold ev at h
    split at h
    · rename_i rs e1 q
      split at h
      · rename_i ds e2 q2
        split at h
        · cases h; exact (evs_kept as _ _ _ q).trans (settles_kept q2)
        · cases h
      · cases h
    · cases h
  | .call f as, e, e', r, h => by
    unfold ev at h
    split at h
    · rename_i rs e1 q
      split at h
      · rename_i ds e2 q2
        split at h
        · cases h; exact (evs_kept as _ _ _ q).trans (settles_kept q2)
        · cases h
      · cases h
    · cases h
  | .callO f i as, e, e', r, h => by
    unfold ev at h
    split at h
    · split at h
      · rename_i rs e1 q
        split at h
        · rename_i ds e2 q2
          split at h
          · rename_i d0 hb
            split at h
            · cases h; exact ((evs_kept as _ _ _ q).trans (settles_kept q2)).trans (set_kl hb rfl (fun _ _ z => nomatch z) (.inl rfl))
            · cases h
          · rename_i d0 hb
            split at h
            · cases h; exact ((evs_kept as _ _ _ q).trans (settles_kept q2)).trans (set_kl hb rfl (fun _ _ z => nomatch z) (.inr rfl))
            · cases h
          · cases h
        · cases h
      · cases h
    · cases h
  | .callB f as, e, e', r, h => by
    unfold ev at h
    split at h
    · rename_i rs e1 q
      split at h
      · split at h
        · split at h
          · cases h; exact evs_kept as _ _ _ q
          · cases h
        · cases h
      · cases h
    · cases h
  | .and_ a b, e, e', r, h => by
    unfold ev at h
    split at h
    · rename_i ra e1 q
      split at h
      · split at h
        · exact (ev_kept a _ _ _ q).trans (ev_kept b e1 e' r h)
        · cases h; exact ev_kept a _ _ _ q
        · cases h
      · cases h
    · cases h
  | .or_ a b, e, e', r, h => by
    unfold ev at h
    split at h
    · rename_i ra e1 q
      split at h
      · split at h
        · exact (ev_kept a _ _ _ q).trans (ev_kept b e1 e' r h)
        · cases h; exact ev_kept a _ _ _ q
        · cases h
      · cases h
    · cases h
  | .ite c a b, e, e', r, h => by
    unfold ev at h
    split at h
    · rename_i ra e1 q
      split at h
      · split at h
        · exact (ev_kept c _ _ _ q).trans (ev_kept a e1 e' r h)
        · exact (ev_kept c _ _ _ q).trans (ev_kept b e1 e' r h)
        · cases h
      · cases h
    · cases h
  | .chain f g a b c, e, e', r, h => by
    unfold ev at h
    split at h
    · rename_i ra e1 q
      split at h
      · rename_i rb e2 q2
        have k := (ev_kept a _ _ _ q).trans (ev_kept b _ _ _ q2)
        split at h
        · split at h
          · split at h
            · rename_i rc e3 q3
              split at h
              · split at h
                · cases h; exact k.trans (ev_kept c _ _ _ q3)
                · cases h
              · cases h
            · cases h
          · cases h; exact k
          · cases h
        · cases h
      · cases h
    · cases h
  | .chain3 f g h3 a b c d, e, e', r, h => by
    unfold ev at h
    split at h
    · rename_i ra e1 q
      split at h
      · rename_i rb e2 q2
        have k := (ev_kept a _ _ _ q).trans (ev_kept b _ _ _ q2)
        split at h
        · split at h
          · split at h
            · rename_i rc e3 q3
              have k3 := k.trans (ev_kept c _ _ _ q3)
              split at h
              · split at h
                · split at h
                  · rename_i rd e4 q4
                    split at h
                    · split at h
                      · cases h; exact k3.trans (ev_kept d _ _ _ q4)
                      · cases h
                    · cases h
                  · cases h
                · cases h; exact k3
                · cases h
              · cases h
            · cases h
          · cases h; exact k
          · cases h
        · cases h
      · cases h
    · cases h
  | .lc g as vs tg cs elt, e, e', r, h => by
    unfold ev at h
    split at h
    · rename_i rs e1 q
      split at h
      · rename_i ds e2 q2
        have k := (evs_kept as _ _ _ q).trans (settles_kept q2)
        split at h
        · split at h
          · rename_i hs
            split at h
            · rename_i ys e7 q3
              split at h
              · cases h
                have kl : KeptOff vs (wipeE e2 vs) e7 ∧ e7.length = (wipeE e2 vs).length := lcLoop_kept (vs := vs) (fun d ea ya eb hq => lcTurn_kept (fun e1 b e2 h => evt_kept cs _ _ _ h) (fun e1 r e2 h => ev_kept elt _ _ _ h) hq) q3
                have ll : e2.length = e7.length := by rw [kl.2, wipeE_len]
                exact k.trans (back_kl ((wipeE_kept vs).trans kl.1) ll)
              · cases h
            · cases h
          · cases h
        · cases h
      · cases h
    · cases h
  | .lc2 g as vs tg cs1 g2 as2 vs1 tg2 cs elt, e, e', r, h => by
    unfold ev at h
    split at h
    · rename_i rs e1 q
      split at h
      · rename_i ds e2 q2
        have k := (evs_kept as _ _ _ q).trans (settles_kept q2)
        split at h
        · split at h
          · rename_i hs
            have hv : ∀ i ∈ vs1, i ∈ vs := fun i hi => List.contains_iff_mem.mp (List.all_eq_true.mp (Bool.and_eq_true_iff.mp hs).2 i hi)
            split at h
            · rename_i ys e7 q3
              split at h
              · cases h
                have kl : KeptOff vs (wipeE e2 vs) e7 ∧ e7.length = (wipeE e2 vs).length := lcLoop_kept (vs := vs) (fun d ea ya eb hq => lc2Turn_kept hv (fun e1 b e2 h => evt_kept cs1 _ _ _ h) (fun ea l eb h => by
                  split at h
                  · rename_i rs5 e5 q5
                    split at h
                    · rename_i ds6 e6 q6
                      split at h
                      · cases h
                        exact (evs_kept as2 _ _ _ q5).trans (settles_kept q6)
                      · cases h
                    · cases h
                  · cases h) (fun e1 b e2 h => evt_kept cs _ _ _ h) (fun e1 r e2 h => ev_kept elt _ _ _ h) hq) q3
                have ll : e2.length = e7.length := by rw [kl.2, wipeE_len]
                exact k.trans (back_kl ((wipeE_kept vs).trans kl.1) ll)
              · cases h
            · cases h
          · cases h
        · cases h
      · cases h
    · cases h
  | .dsp f fl as, e, e', r, h => by
    unfold ev at h
    split at h
    · rename_i ds e1 q
      split at h
      · cases h
        exact evd_kept fl as _ _ _ q
      · cases h
    · cases h
  | .fld i f, e, e', r, h => by
    unfold ev at h
    split at h
    · split at h
      · split at h
        · cases h; exact KL.refl e
        · split at h
          · cases h; exact KL.refl e
          · cases h; exact KL.refl e
          · cases h
        · cases h
      · cases h
    · cases h
  | .callM nm lay φ i as, e, e', r, h => by
    unfold ev at h
    split at h
    · split at h
      · rename_i rs e1 q
        split at h
        · rename_i ds e2 q2
          split at h
          · rename_i hat
            split at h
            · rename_i nm2 fs hb
              split at h
              · rename_i l ho
                split at h
                · split at h
                  · rename_i fs' e3 hp
                    cases h
                    have hn : nm2 = nm := by
                      unfold obAt at hat
                      rw [hb] at hat
                      exact of_decide_eq_true (Bool.and_eq_true_iff.mp hat).1
                    subst hn
                    exact ((evs_kept as _ _ _ q).trans (settles_kept q2)).trans (callM_kl hb ho hp)
                  · cases h
                · cases h
              · cases h
            · cases h
          · cases h
        · cases h
      · cases h
    · cases h
  | .callF φ i f g as, e, e', r, h => by
    unfold ev at h
    split at h
    · split at h
      · rename_i rs e1 q
        split at h
        · rename_i ds e2 q2
          split at h
          · rename_i d0 hb
            split at h
            · cases h; exact ((evs_kept as _ _ _ q).trans (settles_kept q2)).trans (set_kl hb rfl (fun _ _ z => nomatch z) (.inr rfl))
            · cases h
          · cases h
        · cases h
      · cases h
    · cases h
  | .callL fl φ as, e, e', r, h => by
    unfold ev at h
    split at h
    · rename_i rs e1 q
      split at h
      · rename_i ds e2 q2
        split at h
        · split at h
          · cases h; exact (evs_kept as _ _ _ q).trans (settlesL_kl q2)
          · cases h
        · cases h
      · cases h
    · cases h
  | .lcF hh i f g vs tg cs elt, e, e', r, h => by
    unfold ev at h
    split at h
    · rename_i hc
      have hgv : g ∉ vs := fun z => by
        have h3 := (Bool.and_eq_true_iff.mp hc.2).2
        rw [List.contains_iff_mem.mpr z] at h3
        cases h3
      split at h
      · rename_i d hg
        split at h
        · rename_i items hi
          split at h
          · rename_i ys e7 q3
            split at h
            · cases h
              have kl : KeptOff vs ((wipeE e vs).set g (.fr d)) e7 ∧ e7.length = ((wipeE e vs).set g (.fr d)).length := lcLoop_kept (vs := vs) (fun d ea ya eb hq => lcTurn_kept (fun e1 b e2 h => evt_kept cs _ _ _ h) (fun e1 r e2 h => ev_kept elt _ _ _ h) hq) q3
              have hw : (wipeE e vs)[g]? = some (.io d) := by rw [wipeE_off hgv]; exact hg
              have k0 : KL (wipeE e vs) ((wipeE e vs).set g (.fr d)) := set_kl hw rfl (fun _ _ z => nomatch z) (.inr rfl)
              have ll : e.length = e7.length := by rw [kl.2, k0.2, wipeE_len]
              have k1 : KL e (backE e e7 vs) := back_kl (((wipeE_kept vs).trans (k0.1.off vs)).trans kl.1) ll
              obtain ⟨b', d', h1, h2⟩ := k1.1.da g (.io d) d hg rfl
              refine ⟨⟨fun j b2 d2 hj hd => ?_, fun j f2 g2 hj => (k1.trans (set_kl (b := .ow d) h1 rfl (fun nm fs z => by rw [z] at h2; cases h2) (.inl rfl))).1.fg j f2 g2 hj |> fun z => by
                have hgj : g ≠ j := fun w => by
                  subst w
                  obtain ⟨nm, fs, y1, _, _⟩ := fldG_at hj
                  rw [hg] at y1; cases y1
                rw [fldG_congr (List.getElem?_set_ne hgj)] at z ⊢; exact z, fun j b2 hj hp => ?_⟩, by rw [List.length_set]; exact k1.2⟩
              · by_cases hgj : g = j
                · subst hgj
                  exact ⟨_, d, List.getElem?_set_self (by rw [k1.2]; exact (List.getElem?_eq_some_iff.mp hg).1), rfl⟩
                · rw [List.getElem?_set_ne hgj]; exact k1.1.da j b2 d2 hj hd
              · by_cases hgj : g = j
                · subst hgj; exact ⟨_, hg, rfl⟩
                · rw [List.getElem?_set_ne hgj] at hj; exact k1.1.np j b2 hj hp
            · cases h
          · cases h
        · cases h
      · rename_i d hg
        split at h
        · rename_i items hi
          split at h
          · rename_i ys e7 q3
            split at h
            · cases h
              have kl : KeptOff vs (wipeE e vs) e7 ∧ e7.length = (wipeE e vs).length := lcLoop_kept (vs := vs) (fun d ea ya eb hq => lcTurn_kept (fun e1 b e2 h => evt_kept cs _ _ _ h) (fun e1 r e2 h => ev_kept elt _ _ _ h) hq) q3
              have ll : e.length = e7.length := by rw [kl.2, wipeE_len]
              exact back_kl ((wipeE_kept vs).trans kl.1) ll
            · cases h
          · cases h
        · cases h
      · cases h
    · cases h
theorem evd_kept : ∀ (fl : List Bool) (xs : List Ex) (e e' : Env') (ds : List D), evd fl xs e = some (ds, e') → KL e e'
  | _, [], e, e', ds, h => by unfold evd at h; cases h; exact KL.refl e
  | fl, a :: as, e, e', ds, h => by
    unfold evd at h
    split at h
    · rename_i r e1 q
      have k := ev_kept a _ _ _ q
      split at h
      · rename_i fl
        split at h
        · split at h
          · split at h
            · rename_i ds2 e2 q2
              cases h
              exact k.trans (evd_kept fl as _ _ _ q2)
            · cases h
          · cases h
        · cases h
      · rename_i fl
        split at h
        · rename_i d e2 q2
          have k2 := settle_kept q2
          split at h
          · rename_i ds3 e3 q3
            cases h
            exact (k.trans k2).trans (evd_kept fl as _ _ _ q3)
          · cases h
        · cases h
      · cases h
    · cases h
theorem evs_kept : ∀ (xs : List Ex) (e e' : Env') (rs : List Rv), evs xs e = some (rs, e') → KL e e'
  | [], e, e', rs, h => by unfold evs at h; cases h; exact KL.refl e
  | a :: as, e, e', rs, h => by
    unfold evs at h
    split at h
    · rename_i r e1 q
      split at h
      · rename_i rs2 e2 q2
        cases h
        exact (ev_kept a _ _ _ q).trans (evs_kept as _ _ _ q2)
      · cases h
    · cases h
theorem evt_kept : ∀ (xs : List Ex) (e e' : Env') (b : Bool), evt xs e = some (b, e') → KL e e'
  | [], e, e', b, h => by unfold evt at h; cases h; exact KL.refl e
  | c :: _, e, e', b, h => by
    unfold evt at h
    split at h
    · rename_i r e1 q
      split at h
      · split at h
        · cases h; exact ev_kept c _ _ _ q
        · cases h
      · cases h
    · cases h
end
def tE (C : Cfg) (x : Ex) : TE := fun σ H Q => ∃ (F G0 G : Hp) (pn : Pn) (e : Env') (r : Rv) (e' : Env'), Rel C F G0 G H pn σ e ∧ ev x e = some (r, e') ∧
  ∀ v G' H', Rel C F G0 G' H' pn σ e' → Same G G' → RepR C.K G' σ e' r v → Q v H'
def tA (C : Cfg) (xs : List Ex) : TA := fun σ H Q => ∃ (F G0 G : Hp) (pn : Pn) (e : Env') (rs : List Rv) (e' : Env'), Rel C F G0 G H pn σ e ∧ evs xs e = some (rs, e') ∧
  ∀ vs G' H', Rel C F G0 G' H' pn σ e' → Same G G' → RepRs C.K G' σ e' rs vs → Q vs H'
def tT (C : Cfg) (x : Ex) : TT := fun σ H Q => ∃ (F G0 G : Hp) (pn : Pn) (e : Env') (r : Rv) (e' : Env') (d : D) (b : Bool), Rel C F G0 G H pn σ e ∧ ev x e = some (r, e') ∧ r.get e' = some d ∧ truth d = some b ∧
  ∀ G' H', Rel C F G0 G' H' pn σ e' → Same G G' → Q b H'
def tF (C : Cfg) (x : Ex) : TE := fun σ H Q => ∃ (F G0 G : Hp) (pn : Pn) (e : Env') (d : D) (e' : Env'), Rel C F G0 G H pn σ e ∧ ev x e = some (.pers d, e') ∧
  ∀ p o G' H', Rel C F G0 G' H' pn σ e' → Same G G' → G' p = none → F p = none → p ∉ C.tt → (∀ i, ¬ Own σ e' i p) → H' p = some o → RepO C.K G' o d → Q (.ref p) H'
section
variable {X : Cx} {C : Cfg}
theorem _root_.L2.PE.imp {e : Expr} {t t' : TE} (h : PE X e t) (k : ∀ σ H Q, t' σ H Q → t σ H Q) : PE X e t' := ⟨fun pins s σ H Q I q => h.run pins s σ H Q I (k σ H Q q)⟩
theorem _root_.L2.PT.imp {e : Expr} {t t' : TT} (h : PT X e t) (k : ∀ σ H Q, t' σ H Q → t σ H Q) : PT X e t' := ⟨fun pins s σ H Q I q => h.run pins s σ H Q I (k σ H Q q)⟩
theorem _root_.L2.PW.imp {e : Expr} {t t' : TT} (h : PW X e t) (k : ∀ σ H Q, t' σ H Q → t σ H Q) : PW X e t' := ⟨fun w pins s σ H Q I q => h.run w pins s σ H Q I (k σ H Q q)⟩
theorem _root_.L2.PA.imp {e : List Expr} {t t' : TA} (h : PA X e t) (k : ∀ σ H Q, t' σ H Q → t σ H Q) : PA X e t' := ⟨fun pos pins s σ H Q I q => h.run pos pins s σ H Q I (k σ H Q q)⟩
theorem _root_.L2.PS.imp {e : Stmt} {t t' : TS} (h : PS X e t) (k : ∀ D σ H, t' D σ H → t D σ H) : PS X e t' := ⟨fun pins s σ H D I q => h.run pins s σ H D I (k D σ H q)⟩
theorem _root_.L2.PSs.imp {e : List Stmt} {t t' : TS} (h : PSs X e t) (k : ∀ D σ H, t' D σ H → t D σ H) : PSs X e t' := ⟨fun pins s σ H D I q => h.run pins s σ H D I (k D σ H q)⟩
theorem tF_tE {x : Ex} {σ : St} {H : Hp} {Q : VK} (h : tE C x σ H Q) (hx : ∀ e r e', ev x e = some (r, e') → ∃ d, r = .pers d) : tF C x σ H Q := by
  obtain ⟨F, G0, G, pn, e, r, e', R, he, k⟩ := h
  obtain ⟨d, rfl⟩ := hx e r e' he
  refine ⟨F, G0, G, pn, e, d, e', R, he, fun p o G' H' R' s g1 f1 t1 o1 h1 r1 => ?_⟩
  have s2 : Same G' (upd G' p o) := fun b u hb => by rw [upd_ne (ne_of_none hb g1)]; exact hb
  have gh2 : Same (upd G' p o) H' := fun b u hb => by
    by_cases z : b = p
    · rw [z, upd_same] at hb; rw [z, h1]; exact hb
    · rw [upd_ne z] at hb; exact R'.gh b u hb
  have R2 : Rel C F G0 (upd G' p o) H' pn σ e' := by
    refine ⟨R'.fh, gh2, fun b hb hn => ?_, fun P hP => ⟨(R'.tb P hP).1, ?_, (R'.tb P hP).2.2⟩, fun i b hb => ?_, R'.ap, fun i nm fs hb => ?_, R'.fp, R'.pi, R'.ln⟩
    · rw [upd_ne (fun z => hb (by rw [z]; exact f1))]; exact R'.gf b hb hn
    · rw [upd_ne (fun z => t1 (by rw [← z]; exact hP))]; exact (R'.tb P hP).2.1
    · have q := R'.sl i b hb
      cases b with
      | un => trivial
      | im d' =>
        obtain ⟨v, k1, k2⟩ := q
        exact ⟨v, k1, k2.mono s2⟩
      | ow d' =>
        obtain ⟨p', o', k0, k1, k2, k3, k4, k5⟩ := q
        exact ⟨p', o', k0, by rw [upd_ne (fun z => o1 i (by rw [← z]; exact ⟨k0, _, hb, rfl⟩))]; exact k1, k2, k3, k4, k5.mono s2⟩
      | io d' =>
        obtain ⟨p', o', k0, k1, k2, k3, k4, k5⟩ := q
        exact ⟨p', o', k0, by rw [upd_ne (fun z => o1 i (by rw [← z]; exact ⟨k0, _, hb, rfl⟩))]; exact k1, k2, k3, k4, k5.mono s2⟩
      | ob nm fs => trivial
      | fr d' =>
        obtain ⟨p', o', k0, k1, k2, k3⟩ := q
        exact ⟨p', o', k0, by rw [upd_ne (fun z => by rw [z, f1] at k2; cases k2)]; exact k1, k2, k3.mono s2⟩
    · obtain ⟨p', k1, k2⟩ := R'.ob i nm fs hb
      exact ⟨p', k1, k2.keep (by rw [upd_ne (fun z => o1 i (by rw [← z]; exact ⟨k1, _, hb, rfl⟩))]; exact k2.1) k2.2.1 rfl s2 PinK.refl⟩
  refine k (.ref p) (upd G' p o) H' R2 (s.trans s2) ?_
  cases r1 with
  | lst r => exact .lst upd_same (r.mono s2)
  | dK e r => exact .dK (.inl upd_same) e (r.mono s2)
  | dT e r => exact .dT (.inl upd_same) e (r.mono s2)
  | ndc e r m t r2 => exact .ndc (.inl upd_same) e (r.mono s2) m t (r2.mono s2)
theorem ce_var {i : Nat} {x : Str} {pos : Pos} (h : PE X (.Name x pos) (tVar i)) : PE X (.Name x pos) (tE C (.var i)) := h.imp fun σ H Q q => by
  obtain ⟨F, G0, G, pn, e, r, e', R, he, k⟩ := q
  unfold ev at he
  cases q : e[i]? with
  | none => rw [q] at he; cases he
  | some b =>
    rw [q] at he
    have sl := R.sl i b q
    cases b with
    | un => cases he
    | im d =>
      cases he
      obtain ⟨v, h1, h2⟩ := sl
      exact ⟨v, h1, k v G H R (Same.refl G) h2⟩
    | ow d =>
      cases he
      obtain ⟨p, o, h1, _⟩ := sl
      exact ⟨.ref p, h1, k (.ref p) G H R (Same.refl G) ⟨h1, _, _, q, rfl⟩⟩
    | io d =>
      cases he
      obtain ⟨p, o, h1, _⟩ := sl
      exact ⟨.ref p, h1, k (.ref p) G H R (Same.refl G) ⟨h1, _, _, q, rfl⟩⟩
    | ob nm fs => cases he
    | fr d =>
      cases he
      obtain ⟨p, o, h1, _⟩ := sl
      exact ⟨.ref p, h1, k (.ref p) G H R (Same.refl G) ⟨h1, _, _, q, rfl⟩⟩
theorem tC_tE {v : V} {d : D} (h : ∀ G, Rep C.K G v d) (σ : St) (H : Hp) (Q : VK) (q : tE C (.cst d) σ H Q) : tC v σ H Q := by
  obtain ⟨F, G0, G, pn, e, r, e', R, he, k⟩ := q
  unfold ev at he
  cases he
  exact k v G H R (Same.refl G) (h G)
theorem ce_c {a : Expr} {v : V} {d : D} (h : PE X a (tC v)) (r : ∀ G, Rep C.K G v d) : PE X a (tE C (.cst d)) := h.imp (tC_tE r)
theorem ce_int {i : Int} {j : Nat} {pos : Pos} : PE X (.Constant (.int i) j pos) (tE C (.cst (.int i))) := ce_c pe_int fun _ => .int i
theorem ce_bl {b : Bool} {j : Nat} {pos : Pos} : PE X (.Constant (.bool b) j pos) (tE C (.cst (.bl b))) := ce_c pe_bl fun _ => .bl b
theorem ce_non {j : Nat} {pos : Pos} : PE X (.Constant .none j pos) (tE C (.cst .non)) := ce_c pe_non fun _ => .non
theorem ce_str {x : Str} {s : List Nat} {j : Nat} {pos : Pos} (hx : x = ⟨s.toArray⟩) : PE X (.Constant (.str x) j pos) (tE C (.cst (.str s))) := ce_c (v := .str x) pe_str fun _ => by rw [hx]; exact .str s
theorem ca_nil : PA X [] (tA C []) := pa_nil.imp fun σ H Q q => by
  obtain ⟨F, G0, G, pn, e, rs, e', R, he, k⟩ := q
  unfold evs at he
  cases he
  exact k [] G H R (Same.refl G) .nil
theorem tA_cons {x : Ex} {xs : List Ex} {σ : St} {H : Hp} {Q : List V → Hp → Prop} (q : tA C (x :: xs) σ H Q) : tE C x σ H fun v H1 => tA C xs σ H1 fun vs H2 => Q (v :: vs) H2 := by
  obtain ⟨F, G0, G, pn, e, rs, e', R, he, k⟩ := q
  unfold evs at he
  split at he
  · rename_i r e1 q1
    split at he
    · rename_i rs2 e2 q2
      cases he
      refine ⟨F, G0, G, pn, e, r, e1, R, q1, fun v G1 H1 R1 s1 r1 => ⟨F, G0, G1, pn, e1, rs2, e', R1, q2, fun vs G2 H2 R2 s2 r2 => ?_⟩⟩
      exact k (v :: vs) G2 H2 R2 (s1.trans s2) (.cons ((r1.mono s2).env (evs_kept xs _ _ _ q2).1) r2)
    · cases he
  · cases he
theorem ca_cons {a : Expr} {as : List Expr} {x : Ex} {xs : List Ex} (ha : PE X a (tE C x)) (hr : PA X as (tA C xs)) (hs : starEach (a :: as) X.env = (false, eval a X.env) :: starEach as X.env := by rfl) : PA X (a :: as) (tA C (x :: xs)) :=
  (pa_cons ha hr hs).imp fun σ H Q q => tA_cons q
def OkN (C : Cfg) (r : List V → Hp → VK → Prop) (f : List D → Option D) : Prop := ∀ (vs : List V) (ds : List D) (d : D) (G H : Hp) (Q : VK), Same G H → (∀ P ∈ C.tt, TabC C H P) → RepTs C.K G H vs ds → f ds = some d →
  (∀ v G' H', Grow C G H G' H' → Rep C.K G' v d → Q v H') → r vs H Q
def OkNF (C : Cfg) (r : List V → Hp → VK → Prop) (f : List D → Option D) : Prop := ∀ (vs : List V) (ds : List D) (d : D) (G H : Hp) (Q : VK), Same G H → (∀ P ∈ C.tt, TabC C H P) → RepTs C.K G H vs ds → f ds = some d →
  (∀ p o, H p = none → RepO C.K G o d → Q (.ref p) (upd H p o)) → r vs H Q
def OkM (C : Cfg) (r : List V → Hp → VK → Prop) (f : List D → Option D) : Prop := ∀ (vs : List V) (ds : List D) (d : D) (G H : Hp) (Q : VK), Same G H → (∀ P ∈ C.tt, TabC C H P) → RepL C.K G vs ds → f ds = some d →
  (∀ v G' H', Grow C G H G' H' → Rep C.K G' v d → Q v H') → r vs H Q
def OkMF (C : Cfg) (r : List V → Hp → VK → Prop) (f : List D → Option D) : Prop := ∀ (vs : List V) (ds : List D) (d : D) (G H : Hp) (Q : VK), Same G H → (∀ P ∈ C.tt, TabC C H P) → RepL C.K G vs ds → f ds = some d →
  (∀ p o, H p = none → RepO C.K G o d → Q (.ref p) (upd H p o)) → r vs H Q
def Ok2 (C : Cfg) (r : R2) (f : List D → Option D) : Prop := ∀ (x y : V) (a b d : D) (G H : Hp) (Q : VK), Same G H → (∀ P ∈ C.tt, TabC C H P) → RepT C.K G H x a → RepT C.K G H y b → f [a, b] = some d →
  (∀ v G' H', Grow C G H G' H' → Rep C.K G' v d → Q v H') → r x y H Q
def Ok2F (C : Cfg) (r : R2) (f : List D → Option D) : Prop := ∀ (x y : V) (a b d : D) (G H : Hp) (Q : VK), Same G H → (∀ P ∈ C.tt, TabC C H P) → RepT C.K G H x a → RepT C.K G H y b → f [a, b] = some d →
  (∀ p o, H p = none → RepO C.K G o d → Q (.ref p) (upd H p o)) → r x y H Q
theorem known_of_new {G H : Hp} {Q : VK} {d : D} (s : Same G H) (t : ∀ P ∈ C.tt, TabC C H P) (k : ∀ v G' H', Grow C G H G' H' → Rep C.K G' v d → Q v H') : ∀ p o, H p = none → RepO C.K G o d → Q (.ref p) (upd H p o) := fun p o hp r => by
  have gp := s.free hp
  have s2 : Same G (upd G p o) := fun b u hb => by rw [upd_ne (ne_of_none hb gp)]; exact hb
  refine k (.ref p) (upd G p o) (upd H p o) (grow_new s t hp) ?_
  cases r with
  | lst r => exact .lst upd_same (r.mono s2)
  | dK e r => exact .dK (.inl upd_same) e (r.mono s2)
  | dT e r => exact .dT (.inl upd_same) e (r.mono s2)
  | ndc e r m t r2 => exact .ndc (.inl upd_same) e (r.mono s2) m t (r2.mono s2)
theorem OkNF.ok {r : List V → Hp → VK → Prop} {f : List D → Option D} (h : OkNF C r f) : OkN C r f := fun vs ds d G H Q s t rr e k => h vs ds d G H Q s t rr e (known_of_new s t k)
theorem OkMF.ok {r : List V → Hp → VK → Prop} {f : List D → Option D} (h : OkMF C r f) : OkM C r f := fun vs ds d G H Q s t rr e k => h vs ds d G H Q s t rr e (known_of_new s t k)
theorem Ok2F.ok {r : R2} {f : List D → Option D} (h : Ok2F C r f) : Ok2 C r f := fun x y a b d G H Q s t r1 r2 e k => h x y a b d G H Q s t r1 r2 e (known_of_new s t k)
theorem own_of_new {F G0 G H : Hp} {pn : Pn} {σ : St} {e' : Env'} {Q : VK} {d : D} {G1 : Hp} (R1 : Rel C F G0 G1 H pn σ e') (s1 : Same G G1)
    (k : ∀ p o G' H', Rel C F G0 G' H' pn σ e' → Same G G' → G' p = none → F p = none → p ∉ C.tt → (∀ i, ¬ Own σ e' i p) → H' p = some o → RepO C.K G' o d → Q (.ref p) H') :
    ∀ p o, H p = none → RepO C.K G1 o d → Q (.ref p) (upd H p o) := fun p o hp r => by
  exact k p o G1 (upd H p o) (R1.grow (grow_own R1.gh R1.tabs hp)) s1 (R1.gh.free hp) (R1.fh.free hp) (fun z => tabG_some (R1.tb p z).1 hp) (fun i z => (R1.ownH z).1 hp) upd_same r
theorem ev_op {f : List D → Option D} {xs : List Ex} {e e' : Env'} {r : Rv} (h : ev (.op f xs) e = some (r, e')) : ∃ rs ds d, evs xs e = some (rs, e') ∧ gets e' rs = some ds ∧ f ds = some d ∧ r = .pers d := by
  unfold ev at h
  split at h
  · rename_i rs e1 q
    split at h
    · rename_i ds q2
      split at h
      · rename_i d q3
        cases h
        exact ⟨rs, ds, d, q, q2, q3, rfl⟩
      · cases h
    · cases h
  · cases h
theorem ev_mk {f : List D → Option D} {xs : List Ex} {e e' : Env'} {r : Rv} (h : ev (.mk f xs) e = some (r, e')) : ∃ rs e1 ds d, evs xs e = some (rs, e1) ∧ settles e1 rs = some (ds, e') ∧ f ds = some d ∧ r = .pers d := by
  unfold ev at h
  split at h
  · rename_i rs e1 q
    split at h
    · rename_i ds e2 q2
      split at h
      · rename_i d q3
        cases h
        exact ⟨rs, e1, ds, d, q, q2, q3, rfl⟩
      · cases h
    · cases h
  · cases h
theorem tE_op {r : List V → Hp → VK → Prop} {f : List D → Option D} (ok : OkN C r f) {xs : List Ex} {σ : St} {H : Hp} {Q : VK} (q : tE C (.op f xs) σ H Q) : tA C xs σ H fun vs H1 => r vs H1 Q := by
  obtain ⟨F, G0, G, pn, e, rr, e', R, he, k⟩ := q
  obtain ⟨rs, ds, d, q1, q2, q3, rfl⟩ := ev_op he
  exact ⟨F, G0, G, pn, e, rs, e', R, q1, fun vs G1 H1 R1 s1 r1 => ok vs ds d G1 H1 Q R1.gh R1.tabs (R1.gets r1 q2) q3 fun v G2 H2 g rv => k v G2 H2 (R1.grow g) (s1.trans g.gg) rv⟩
theorem tE_mk {r : List V → Hp → VK → Prop} {f : List D → Option D} (ok : OkM C r f) {xs : List Ex} {σ : St} {H : Hp} {Q : VK} (q : tE C (.mk f xs) σ H Q) : tA C xs σ H fun vs H1 => r vs H1 Q := by
  obtain ⟨F, G0, G, pn, e, rr, e', R, he, k⟩ := q
  obtain ⟨rs, e1, ds, d, q1, q2, q3, rfl⟩ := ev_mk he
  refine ⟨F, G0, G, pn, e, rs, e1, R, q1, fun vs G1 H1 R1 s1 r1 => ?_⟩
  obtain ⟨G2, s2, R2, r2, _⟩ := Rel.settles R1 r1 q2
  exact ok vs ds d G2 H1 Q R2.gh R2.tabs r2 q3 fun v G3 H3 g rv => k v G3 H3 (R2.grow g) ((s1.trans s2).trans g.gg) rv
theorem tF_mk {r : List V → Hp → VK → Prop} {f : List D → Option D} (ok : OkMF C r f) {xs : List Ex} {σ : St} {H : Hp} {Q : VK} (q : tF C (.mk f xs) σ H Q) : tA C xs σ H fun vs H1 => r vs H1 Q := by
  obtain ⟨F, G0, G, pn, e, d0, e', R, he, k⟩ := q
  obtain ⟨rs, e1, ds, d, q1, q2, q3, q4⟩ := ev_mk he
  cases q4
  refine ⟨F, G0, G, pn, e, rs, e1, R, q1, fun vs G1 H1 R1 s1 r1 => ?_⟩
  obtain ⟨G2, s2, R2, r2, _⟩ := Rel.settles R1 r1 q2
  exact ok vs ds _ G2 H1 Q R2.gh R2.tabs r2 q3 (own_of_new R2 (s1.trans s2) k)
theorem tA_two {x y : Ex} {σ : St} {H : Hp} {P : V → V → Hp → Prop} (q : tA C [x, y] σ H fun vs H1 => ∃ a b, vs = [a, b] ∧ P a b H1) : tE C x σ H fun a H1 => tE C y σ H1 fun b H2 => P a b H2 := by
  obtain ⟨F, G0, G, pn, e, rs, e', R, he, k⟩ := q
  unfold evs at he
  split at he
  · rename_i r e1 q1
    split at he
    · rename_i rs2 e2 q2
      cases he
      unfold evs at q2
      split at q2
      · rename_i r2 e3 q3
        unfold evs at q2
        cases q2
        refine ⟨F, G0, G, pn, e, r, e1, R, q1, fun v G1 H1 R1 s1 r1 => ⟨F, G0, G1, pn, e1, r2, _, R1, q3, fun w G2 H2 R2 s2 r3 => ?_⟩⟩
        obtain ⟨a, b, e4, p⟩ := k [v, w] G2 H2 R2 (s1.trans s2) (.cons ((r1.mono s2).env (ev_kept y _ _ _ q3).1) (.cons r3 .nil))
        cases e4
        exact p
      · cases q2
    · cases he
  · cases he
theorem Ok2.n {r : R2} {f : List D → Option D} (h : Ok2 C r f) (hf : ∀ ds d, f ds = some d → ds.length = 2 := by intro ds d e; first | (match ds, e with | [_, _], _ => rfl)) : OkN C (fun vs H Q => ∃ a b, vs = [a, b] ∧ r a b H Q) f := fun vs ds d G H Q s t rr e k => by
  have hl := hf ds d e
  cases rr with
  | nil => cases hl
  | cons r1 rr =>
    cases rr with
    | nil => cases hl
    | cons r2 rr =>
      cases rr with
      | cons r3 rr => simp at hl
      | nil => exact ⟨_, _, rfl, h _ _ _ _ d G H Q s t r1 r2 e k⟩
theorem Ok2F.n {r : R2} {f : List D → Option D} (h : Ok2F C r f) (hf : ∀ ds d, f ds = some d → ds.length = 2) : OkNF C (fun vs H Q => ∃ a b, vs = [a, b] ∧ r a b H Q) f := fun vs ds d G H Q s t rr e k => by
  have hl := hf ds d e
  cases rr with
  | nil => cases hl
  | cons r1 rr =>
    cases rr with
    | nil => cases hl
    | cons r2 rr =>
      cases rr with
      | cons r3 rr => simp at hl
      | nil => exact ⟨_, _, rfl, h _ _ _ _ d G H Q s t r1 r2 e k⟩
def Two (f : List D → Option D) : Prop := ∀ ds d, f ds = some d → ds.length = 2
theorem tOp_of {r : R2} {f : List D → Option D} (ok : Ok2 C r f) (hf : Two f) {x y : Ex} {σ : St} {H : Hp} {Q : VK} (q : tE C (.op f [x, y]) σ H Q) : tOp r (tE C x) (tE C y) σ H Q := tA_two (tE_op (ok.n hf) q)
variable {a b c : Expr} {x y z : Ex} {pos : Pos}
theorem ce_bin {op : Operator} {r : R2} {f : List D → Option D} (ho : OpR X (binaryOp op) r) (ok : Ok2 C r f) (hf : Two f) (ha : PE X a (tE C x)) (hb : PE X b (tE C y)) : PE X (.BinOp a op b pos) (tE C (.op f [x, y])) :=
  (pe_op ho ha hb).imp fun σ H Q q => tOp_of ok hf q
theorem ce_cmp {op : CmpOp} {r : R2} {f : List D → Option D} (ho : OpR X (compareOp op) r) (ok : Ok2 C r f) (hf : Two f) (ha : PE X a (tE C x)) (hb : PE X b (tE C y)) (hm : behindInMarks op b = false) : PE X (.Compare a [op] [b] pos) (tE C (.op f [x, y])) :=
  (pe_cmpR ho ha hb hm).imp fun σ H Q q => tOp_of ok hf q
theorem tTest_of {t : TE} {x : Ex} {σ : St} {H : Hp} {Q : Bool → Hp → Prop} (himp : ∀ Q : VK, tE C x σ H Q → t σ H Q) (hx : ∀ e r e', ev x e = some (r, e') → ∃ k, r = .pers (.bl k)) (q : tT C x σ H Q) : tTest t σ H Q := by
  obtain ⟨F, G0, G, pn, e, r, e', d, bb, R, he, hg, ht, k⟩ := q
  obtain ⟨kk, rfl⟩ := hx e r e' he
  cases hg
  cases ht
  exact himp _ ⟨F, G0, G, pn, e, _, e', R, he, fun v G' H' R' s rv => ⟨_, by cases rv; rfl, k G' H' R' s⟩⟩
def Boo (f : List D → Option D) : Prop := ∀ ds d, f ds = some d → ∃ k, d = .bl k
theorem op_boo {f : List D → Option D} (hf : Boo f) {xs : List Ex} : ∀ e r e', ev (.op f xs) e = some (r, e') → ∃ k, r = .pers (.bl k) := fun e r e' h => by
  obtain ⟨rs, ds, d, q1, q2, q3, rfl⟩ := ev_op h
  obtain ⟨k, rfl⟩ := hf ds d q3
  exact ⟨k, rfl⟩
theorem ct_cmp {op : CmpOp} {r : R2} {f : List D → Option D} (ho : OpR X (compareOp op) r) (ok : Ok2 C r f) (hf : Two f) (hb2 : Boo f) (ha : PE X a (tE C x)) (hb : PE X b (tE C y)) (hm : behindInMarks op b = false) : PT X (.Compare a [op] [b] pos) (tT C (.op f [x, y])) :=
  (pt_cmpR ho ha hb hm).imp fun σ H Q q => tTest_of (fun Q q => tOp_of ok hf q) (op_boo hb2) q
theorem tUn_of {r : V → Hp → VK → Prop} {f : List D → Option D} (ok : OkN C (fun vs H Q => ∃ a, vs = [a] ∧ r a H Q) f) {x : Ex} {σ : St} {H : Hp} {Q : VK} (q : tE C (.op f [x]) σ H Q) : tUn r (tE C x) σ H Q := by
  obtain ⟨F, G0, G, pn, e, rs, e', R, he, k⟩ := tE_op ok q
  unfold evs at he
  split at he
  · rename_i r1 e1 q1
    unfold evs at he
    cases he
    refine ⟨F, G0, G, pn, e, r1, _, R, q1, fun v G1 H1 R1 s1 r2 => ?_⟩
    obtain ⟨a, e4, p⟩ := k [v] G1 H1 R1 s1 (.cons r2 .nil)
    cases e4
    exact p
  · cases he
theorem ce_un {op : UnaryOp} {r : V → Hp → VK → Prop} {f : List D → Option D} (ho : UnR X (unaryOp op) r) (ok : OkN C (fun vs H Q => ∃ a, vs = [a] ∧ r a H Q) f) (ha : PE X a (tE C x)) : PE X (.UnaryOp op a pos) (tE C (.op f [x])) :=
  (pe_un ho ha).imp fun σ H Q q => tUn_of ok q
theorem ce_ix {r : R2} {f : List D → Option D} (hr : IxR X r) (ok : Ok2 C r f) (hf : Two f) (ha : PE X a (tE C x)) (hb : PE X b (tE C y)) (hs : PlainIx b) : PE X (.Subscript a b pos) (tE C (.op f [x, y])) :=
  (pe_ix hr ha hb hs).imp fun σ H Q q => tOp_of ok hf q
theorem ce_callB {id : String} {r : List V → Hp → VK → Prop} {f : List D → Option D} {nm : Str} {p : Pos} {es : List Expr} {xs : List Ex} (hc : CallR X (.builtin id) r) (ok : OkN C r f) (hg : Gl X nm) (hm : X.mg nm = none) (hv : bootBuiltins nm = some (.builtin id)) (ha : PA X (a :: es) (tA C xs))
    (hn : nm ≠ "__name__" := by decide) (hdb : (nm == ("__debug__" : Str)) = false := by decide)
    (he : starEach (a :: es) X.env = (false, eval a X.env) :: starEach es X.env := by rfl) (hpl : (backTo pos (starEach es X.env)).any (·.1) = false := by rfl) : PE X (.Call (.Name nm p) (a :: es) [] pos) (tE C (.op f xs)) :=
  (pe_callB hc hg hm hv ha hn hdb he hpl).imp fun σ H Q q => tE_op ok q
theorem ce_callTy {T : String} {r : List V → Hp → VK → Prop} {f : List D → Option D} {nm : Str} {p : Pos} {es : List Expr} {xs : List Ex} (hc : CallR X (.type T) r) (ok : OkN C r f) (hg : Gl X nm) (hm : X.mg nm = none) (hv : bootBuiltins nm = some (.type T)) (ha : PA X (a :: es) (tA C xs))
    (hn : nm ≠ "__name__" := by decide) (hdb : (nm == ("__debug__" : Str)) = false := by decide)
    (he : starEach (a :: es) X.env = (false, eval a X.env) :: starEach es X.env := by rfl) (hpl : (backTo pos (starEach es X.env)).any (·.1) = false := by rfl) : PE X (.Call (.Name nm p) (a :: es) [] pos) (tE C (.op f xs)) :=
  (pe_callTy hc hg hm hv ha hn hdb he hpl).imp fun σ H Q q => tE_op ok q
end
end Mi
namespace Mi
open PySem PySem.Spec PyProof.Rows L2 GxR
theorem lim16 {n : Nat} (h : n ≤ 16000000) : n ≤ sizeLine := by rw [sizeLine_eq]; omega
section
variable {X : Cx} {C : Cfg} {a b c : Expr} {x y z : Ex} {pos : Pos}
theorem truth_V {K : FragW} {G H : Hp} {v : V} {d : D} {b : Bool} (r : RepT K G H v d) (h : truth d = some b) : TruV K v H b := by
  cases r with
  | non => cases h; rfl
  | bl k => cases h; rfl
  | int i => cases h; rfl
  | str s =>
    unfold truth at h
    dsimp only at h
    split at h
    · rename_i hl
      cases h
      refine ⟨by have := lim16 hl; simpa [Str.length] using this, ?_⟩
      cases s with
      | nil => rfl
      | cons c s =>
        have : ((((c :: s).toArray.size : Nat) : Int) != 0) = true := by
          have h2 : (c :: s).toArray.size = s.length + 1 := by simp
          rw [h2]
          simp only [bne_iff_ne, ne_eq]
          omega
        exact this.symm
    · cases h
  | tup g q rr =>
    cases h
    refine .inr (.inl ⟨_, SqT.of q, ?_⟩)
    cases rr <;> rfl
  | lst q rr =>
    cases h
    refine .inl ⟨_, SqL.of q, ?_⟩
    cases rr <;> rfl
  | scr q => cases h
  | fn q => cases h
  | ptp g q e rr => cases h
  | dK q e rr => cases h
  | dT q e rr => cases h
  | ndc q e rr m t r2 => cases h
theorem ct_truth (ha : PE X a (tE C x)) (hK : C.K.f = X.K) (he : ∀ whole, isTrue a X.env whole = (do let v ← whole; standAt a.pos; holding [v] (truthy v))) : PT X a (tT C x) :=
  (pt_truth ha he).imp fun σ H Q q => by
    obtain ⟨F, G0, G, pn, e, r, e', d, bb, R, he, hg, ht, k⟩ := q
    refine ⟨F, G0, G, pn, e, r, e', R, he, fun v G' H' R' s rv => ⟨bb, ?_, k G' H' R' s⟩⟩
    rw [← hK]
    exact truth_V (R'.get rv hg) ht
theorem ct_not (ha : PT X a (tT C x)) : PT X (.UnaryOp .Not a pos) (tT C (.op (fun ds => match ds with
    | [d] => (truth d).map fun b => .bl (!b)
    | _ => none) [x])) := (pt_not ha).imp fun σ H Q q => by
  obtain ⟨F, G0, G, pn, e, r, e', d, bb, R, he, hg, ht, k⟩ := q
  obtain ⟨rs, ds, d1, q1, q2, q3, rfl⟩ := ev_op he
  unfold evs at q1
  split at q1
  · rename_i r1 e1 q4
    unfold evs at q1
    cases q1
    unfold gets at q2
    split at q2
    · rename_i d2 q5
      unfold gets at q2
      cases q2
      dsimp only at q3
      cases q6 : truth d2 with
      | none => rw [q6] at q3; cases q3
      | some k2 =>
        rw [q6] at q3
        cases q3
        cases hg
        cases ht
        exact ⟨F, G0, G, pn, e, r1, e', d2, k2, R, q4, q5, q6, k⟩
    · cases q2
  · cases q1
def notF : List D → Option D := fun ds => match ds with
  | [d] => (truth d).map fun b => .bl (!b)
  | _ => none
theorem ct_notF (ha : PT X a (tT C x)) : PT X (.UnaryOp .Not a pos) (tT C (.op notF [x])) := ct_not ha
theorem ce_notF (ha : PE X a (tE C x)) (hK : C.K.f = X.K) : PE X (.UnaryOp .Not a pos) (tE C (.op notF [x])) := (pe_notT ha).imp fun σ H Q q => by
  obtain ⟨F, G0, G, pn, e, r, e', R, he, k⟩ := q
  obtain ⟨rs, ds, d1, q1, q2, q3, rfl⟩ := ev_op he
  unfold evs at q1
  split at q1
  · rename_i r1 e1 q4
    unfold evs at q1
    cases q1
    unfold gets at q2
    split at q2
    · rename_i d2 q5
      unfold gets at q2
      cases q2
      unfold notF at q3
      dsimp only at q3
      cases q6 : truth d2 with
      | none => rw [q6] at q3; cases q3
      | some k2 =>
        rw [q6] at q3
        cases q3
        refine ⟨F, G0, G, pn, e, r1, e', R, q4, fun v G' H' R' s rv => ⟨k2, ?_, k (.bl (!k2)) G' H' R' s (.bl _)⟩⟩
        rw [← hK]
        exact truth_V (R'.get rv q5) q6
    · cases q2
  · cases q1
theorem tAnd_of {σ : St} {H : Hp} {Q : Bool → Hp → Prop} (q : tT C (.and_ x y) σ H Q) : tAnd (tT C x) (tT C y) σ H Q := by
  obtain ⟨F, G0, G, pn, e, r, e', d, bb, R, he, hg, ht, k⟩ := q
  unfold ev at he
  split at he
  · rename_i r1 e1 q1
    split at he
    · rename_i d1 q2
      split at he
      · rename_i q3
        exact ⟨F, G0, G, pn, e, r1, e1, d1, true, R, q1, q2, q3, fun G1 H1 R1 s1 => iteT ⟨F, G0, G1, pn, e1, r, e', d, bb, R1, he, hg, ht, fun G2 H2 R2 s2 => k G2 H2 R2 (s1.trans s2)⟩⟩
      · rename_i q3
        cases he
        rw [q2] at hg
        cases hg
        rw [q3] at ht
        cases ht
        exact ⟨F, G0, G, pn, e, r, e', d, false, R, q1, q2, q3, fun G1 H1 R1 s1 => iteF (k G1 H1 R1 s1)⟩
      · cases he
    · cases he
  · cases he
theorem tOr_of {σ : St} {H : Hp} {Q : Bool → Hp → Prop} (q : tT C (.or_ x y) σ H Q) : tOr (tT C x) (tT C y) σ H Q := by
  obtain ⟨F, G0, G, pn, e, r, e', d, bb, R, he, hg, ht, k⟩ := q
  unfold ev at he
  split at he
  · rename_i r1 e1 q1
    split at he
    · rename_i d1 q2
      split at he
      · rename_i q3
        exact ⟨F, G0, G, pn, e, r1, e1, d1, false, R, q1, q2, q3, fun G1 H1 R1 s1 => iteF ⟨F, G0, G1, pn, e1, r, e', d, bb, R1, he, hg, ht, fun G2 H2 R2 s2 => k G2 H2 R2 (s1.trans s2)⟩⟩
      · rename_i q3
        cases he
        rw [q2] at hg
        cases hg
        rw [q3] at ht
        cases ht
        exact ⟨F, G0, G, pn, e, r, e', d, true, R, q1, q2, q3, fun G1 H1 R1 s1 => iteT (k G1 H1 R1 s1)⟩
      · cases he
    · cases he
  · cases he
variable {rest : List Expr}
theorem cw_and1 (ha : PT X a (tT C x)) : PW X (.BoolOp .And [a] pos) (tT C x) := pw_and1 ha
theorem cw_or1 (ha : PT X a (tT C x)) : PW X (.BoolOp .Or [a] pos) (tT C x) := pw_or1 ha
theorem cw_and (ha : PT X a (tT C x)) (hb : PW X (.BoolOp .And (b :: rest) pos) (tT C y)) : PW X (.BoolOp .And (a :: b :: rest) pos) (tT C (.and_ x y)) := (pw_and ha hb).imp fun σ H Q q => tAnd_of q
theorem cw_or (ha : PT X a (tT C x)) (hb : PW X (.BoolOp .Or (b :: rest) pos) (tT C y)) : PW X (.BoolOp .Or (a :: b :: rest) pos) (tT C (.or_ x y)) := (pw_or ha hb).imp fun σ H Q q => tOr_of q
theorem ce_one {op : BoolOp} (ha : PE X a (tE C x)) (h : ∀ {t : TE}, PE X a t → PE X (.BoolOp op [a] pos) t) : PE X (.BoolOp op [a] pos) (tE C x) := h ha
theorem ce_and (ha : PE X a (tE C x)) (hb : PE X (.BoolOp .And (b :: rest) pos) (tE C y)) (hK : C.K.f = X.K) : PE X (.BoolOp .And (a :: b :: rest) pos) (tE C (.and_ x y)) := (pe_andT ha hb).imp fun σ H Q q => by
  obtain ⟨F, G0, G, pn, e, r, e', R, he, k⟩ := q
  unfold ev at he
  split at he
  · rename_i r1 e1 q1
    split at he
    · rename_i d1 q2
      split at he
      · rename_i q3
        refine ⟨F, G0, G, pn, e, r1, e1, R, q1, fun v G1 H1 R1 s1 rv => ⟨true, by rw [← hK]; exact truth_V (R1.get rv q2) q3, iteT ⟨F, G0, G1, pn, e1, r, e', R1, he, fun w G2 H2 R2 s2 => k w G2 H2 R2 (s1.trans s2)⟩⟩⟩
      · rename_i q3
        cases he
        exact ⟨F, G0, G, pn, e, r, e', R, q1, fun v G1 H1 R1 s1 rv => ⟨false, by rw [← hK]; exact truth_V (R1.get rv q2) q3, iteF (k v G1 H1 R1 s1 rv)⟩⟩
      · cases he
    · cases he
  · cases he
theorem ev_ite {e e' : Env'} {r : Rv} (he : ev (.ite z x y) e = some (r, e')) : ∃ r1 e1 d1 b, ev z e = some (r1, e1) ∧ r1.get e1 = some d1 ∧ truth d1 = some b ∧ ev (if b = true then x else y) e1 = some (r, e') := by
  unfold ev at he
  split at he
  · rename_i r1 e1 q1
    split at he
    · rename_i d1 q2
      split at he
      · rename_i q3
        exact ⟨r1, e1, d1, true, q1, q2, q3, by rw [if_pos rfl]; exact he⟩
      · rename_i q3
        exact ⟨r1, e1, d1, false, q1, q2, q3, by rw [if_neg Bool.false_ne_true]; exact he⟩
      · cases he
    · cases he
  · cases he
theorem ce_ite (hc : PT X c (tT C z)) (ha : PE X a (tE C x)) (hb : PE X b (tE C y)) : PE X (.IfExp c a b pos) (tE C (.ite z x y)) := (pe_ifExp hc ha hb).imp fun σ H Q q => by
  obtain ⟨F, G0, G, pn, e, r, e', R, he, k⟩ := q
  obtain ⟨r1, e1, d1, bb, q1, q2, q3, q4⟩ := ev_ite he
  refine ⟨F, G0, G, pn, e, r1, e1, d1, bb, R, q1, q2, q3, fun G1 H1 R1 s1 => ?_⟩
  cases bb with
  | true => exact iteT ⟨F, G0, G1, pn, e1, r, e', R1, q4, fun w G2 H2 R2 s2 => k w G2 H2 R2 (s1.trans s2)⟩
  | false => exact iteF ⟨F, G0, G1, pn, e1, r, e', R1, q4, fun w G2 H2 R2 s2 => k w G2 H2 R2 (s1.trans s2)⟩
theorem ev_chain {f g : List D → Option D} {e e' : Env'} {r : Rv} (he : ev (.chain f g x y z) e = some (r, e')) :
    ∃ ra e1 rb e2 ds, ev x e = some (ra, e1) ∧ ev y e1 = some (rb, e2) ∧ gets e2 [ra, rb] = some ds ∧
      ((f ds = some (.bl false) ∧ r = .pers (.bl false) ∧ e' = e2) ∨ (f ds = some (.bl true) ∧ ∃ rc ds2 d, ev z e2 = some (rc, e') ∧ gets e' [rb, rc] = some ds2 ∧ g ds2 = some d ∧ r = .pers d)) := by
  unfold ev at he
  split at he
  · rename_i ra e1 q1
    split at he
    · rename_i rb e2 q2
      split at he
      · rename_i ds q3
        split at he
        · rename_i q4
          split at he
          · rename_i rc e3 q5
            split at he
            · rename_i ds2 q6
              split at he
              · rename_i d q7
                cases he
                exact ⟨ra, e1, rb, e2, ds, q1, q2, q3, .inr ⟨q4, rc, ds2, d, q5, q6, q7, rfl⟩⟩
              · cases he
            · cases he
          · cases he
        · rename_i q4
          cases he
          exact ⟨ra, e1, rb, _, ds, q1, q2, q3, .inl ⟨q4, rfl, rfl⟩⟩
        · cases he
      · cases he
    · cases he
  · cases he
theorem gets2 {e : Env'} {ra rb : Rv} {ds : List D} (h : gets e [ra, rb] = some ds) : ∃ a b, ds = [a, b] ∧ ra.get e = some a ∧ rb.get e = some b := by
  unfold gets at h
  split at h
  · rename_i a qa
    split at h
    · rename_i ds2 q2
      unfold gets at q2
      split at q2
      · rename_i b qb
        unfold gets at q2
        cases q2
        cases h
        exact ⟨a, b, rfl, qa, qb⟩
      · cases q2
    · cases h
  · cases h
theorem tChain_of {r r' : R2} {f g : List D → Option D} (ok : Ok2 C r f) (ok' : Ok2 C r' g) {σ : St} {H : Hp} {Q : VK} (q : tE C (.chain f g x y z) σ H Q) : tChain r r' (tE C x) (tE C y) (tE C z) σ H Q := by
  obtain ⟨F, G0, G, pn, e, rr, e', R, he, k⟩ := q
  obtain ⟨ra, e1, rb, e2, ds, q1, q2, q3, q4⟩ := ev_chain he
  refine ⟨F, G0, G, pn, e, ra, e1, R, q1, fun v G1 H1 R1 s1 rv => ⟨F, G0, G1, pn, e1, rb, e2, R1, q2, fun w G2 H2 R2 s2 rw' => ?_⟩⟩
  obtain ⟨da, db, rfl, ga, gb⟩ := gets2 q3
  have rv2 := (rv.mono s2).env (ev_kept y _ _ _ q2).1
  rcases q4 with ⟨hf, rfl, rfl⟩ | ⟨hf, rc, ds2, d, q5, q6, q7, rfl⟩
  · refine ok v w da db _ G2 H2 _ R2.gh R2.tabs (R2.get rv2 ga) (R2.get rw' gb) hf fun u G3 H3 gr ru => ?_
    cases ru
    exact ⟨false, rfl, iteF (k (.bl false) G3 H3 (R2.grow gr) ((s1.trans s2).trans gr.gg) (.bl false))⟩
  · refine ok v w da db _ G2 H2 _ R2.gh R2.tabs (R2.get rv2 ga) (R2.get rw' gb) hf fun u G3 H3 gr ru => ?_
    cases ru
    refine ⟨true, rfl, iteT ⟨F, G0, G3, pn, e2, rc, e', R2.grow gr, q5, fun u2 G4 H4 R4 s4 ru2 => ?_⟩⟩
    obtain ⟨db2, dc, rfl, gb2, gc⟩ := gets2 q6
    have rw2 := (rw'.mono (gr.gg.trans s4)).env (ev_kept z _ _ _ q5).1
    exact ok' w u2 db2 dc d G4 H4 Q R4.gh R4.tabs (R4.get rw2 gb2) (R4.get ru2 gc) q7 fun u3 G5 H5 gr5 ru3 => k u3 G5 H5 (R4.grow gr5) ((((s1.trans s2).trans gr.gg).trans s4).trans gr5.gg) ru3
theorem ce_chain {op op' : CmpOp} {r r' : R2} {f g : List D → Option D} (ho : OpR X (compareOp op) r) (ho' : OpR X (compareOp op') r') (ok : Ok2 C r f) (ok' : Ok2 C r' g) (ha : PE X a (tE C x)) (hb : PE X b (tE C y)) (hc : PE X c (tE C z))
    (hm : lastMarks [op, op'] [b, c] = false := by with_unfolding_all rfl) : PE X (.Compare a [op, op'] [b, c] pos) (tE C (.chain f g x y z)) := (pe_chain ho ho' ha hb hc hm).imp fun σ H Q q => tChain_of ok ok' q
theorem ct_chain {op op' : CmpOp} {r r' : R2} {f g : List D → Option D} (ho : OpR X (compareOp op) r) (ho' : OpR X (compareOp op') r') (ok : Ok2 C r f) (ok' : Ok2 C r' g) (bg : Boo g) (ha : PE X a (tE C x)) (hb : PE X b (tE C y)) (hc : PE X c (tE C z))
    (hm : lastMarks [op, op'] [b, c] = false := by with_unfolding_all rfl) : PT X (.Compare a [op, op'] [b, c] pos) (tT C (.chain f g x y z)) := (pt_chain ho ho' ha hb hc hm).imp fun σ H Q q =>
  tTest_of (fun Q q => tChain_of ok ok' q) (fun e r e' he => by
    obtain ⟨ra, e1, rb, e2, ds, q1, q2, q3, q4⟩ := ev_chain he
    rcases q4 with ⟨_, rfl, _⟩ | ⟨_, rc, ds2, d, _, _, q7, rfl⟩
    · exact ⟨false, rfl⟩
    · obtain ⟨k, rfl⟩ := bg ds2 d q7
      exact ⟨k, rfl⟩) q
def spI (C : Cfg) (n : Nat) (φ : List D → Option D) : Sp := fun vs H Q _ => ∃ (G : Hp) (ds : List D) (d : D), vs.length = n ∧ Same G H ∧ (∀ P ∈ C.tt, TabC C H P ∧ G P = none) ∧ RepL C.K G vs ds ∧ φ ds = some d ∧
  ∀ v G' H', Grow C G H G' H' → Rep C.K G' v d → Q v H'
structure GrowO (C : Cfg) (p : Addr) (G H G' H' : Hp) : Prop where
  gg : Same G G'
  gh : Same G' H'
  hh : ∀ q, q ≠ p → H q ≠ none → q ∉ C.tt → H' q = H q
  go : ∀ q, H q ≠ none → NT (H q) → G' q = G q
  tb : ∀ P ∈ C.tt, TabC C H' P
def spO (C : Cfg) (n : Nat) (φ : List D → Option (D × D)) : Sp := fun vs H Q _ => ∃ (G : Hp) (p : Addr) (o : HO) (d0 : D) (ws : List V) (ds : List D) (d d1 : D), vs = .ref p :: ws ∧ vs.length = n ∧ Same G H ∧ (∀ P ∈ C.tt, TabC C H P ∧ G P = none) ∧ G p = none ∧ p ∉ C.tt ∧ H p = some o ∧ RepO C.K G o d0 ∧
  RepL C.K G ws ds ∧ φ (d0 :: ds) = some (d, d1) ∧ ∀ v G' H' o', GrowO C p G H G' H' → Rep C.K G' v d → H' p = some o' → RepO C.K G' o' d1 → Q v H'
theorem evs_len : ∀ {xs : List Ex} {e e1 : Env'} {rs : List Rv}, evs xs e = some (rs, e1) → rs.length = xs.length
  | [], e, e1, rs, h => by unfold evs at h; cases h; rfl
  | x :: xs, e, e1, rs, h => by
    unfold evs at h
    split at h
    · split at h
      · rename_i q
        cases h
        exact congrArg Nat.succ (evs_len q)
      · cases h
    · cases h
theorem settles_len : ∀ {rs : List Rv} {e e1 : Env'} {ds : List D}, settles e rs = some (ds, e1) → ds.length = rs.length
  | [], e, e1, ds, h => by cases h; rfl
  | r :: rs, e, e1, ds, h => by
    unfold settles at h
    split at h
    · split at h
      · rename_i q
        cases h
        exact congrArg Nat.succ (settles_len q)
      · cases h
    · cases h
theorem ev_call {φ : List D → Option D} {xs : List Ex} {e e' : Env'} {r : Rv} (h : ev (.call φ xs) e = some (r, e')) : ∃ rs e1 ds d, evs xs e = some (rs, e1) ∧ settles e1 rs = some (ds, e') ∧ φ ds = some d ∧ r = .pers d := by
  unfold ev at h
  split at h
  · rename_i rs e1 q
    split at h
    · rename_i ds e2 q2
      split at h
      · rename_i d q3
        cases h
        exact ⟨rs, e1, ds, d, q, q2, q3, rfl⟩
      · cases h
    · cases h
  · cases h
theorem tCall_of {n : Nat} {φ : List D → Option D} {xs : List Ex} (hn : xs.length = n) {σ : St} {H : Hp} {Q : VK} (q : tE C (.call φ xs) σ H Q) : tCall (spI C n φ) [] E0 (tA C xs) σ H Q := by
  obtain ⟨F, G0, G, pn, e, rr, e', R, he, k⟩ := q
  obtain ⟨rs, e1, ds, d, q1, q2, q3, rfl⟩ := ev_call he
  refine ⟨F, G0, G, pn, e, rs, e1, R, q1, fun vs G1 H1 R1 s1 r1 => ?_⟩
  obtain ⟨G2, s2, R2, r2, _⟩ := Rel.settles R1 r1 q2
  refine ⟨G2, ds, d, ?_, R2.gh, fun P hP => ⟨(R2.tb P hP).1, (R2.tb P hP).2.1⟩, by rw [List.append_nil]; exact r2, q3, fun v G3 H3 g rv => k v G3 H3 (R2.grow g) ((s1.trans s2).trans g.gg) rv⟩
  rw [List.append_nil, ← hn, r2.length, settles_len q2, evs_len q1]
variable {k n : Nat} {f : Addr} {fd : FuncData} {ps : List Str} {nm : Str} {p : Pos} {es : List Expr} {xs : List Ex}
theorem ce_call {φ : List D → Option D} (F : FnOk X.prog X.w X.K X.mg X.base CX0 k f fd ps (spI C n φ)) (hr : Room k X.A) (hg : Gl X nm) (hm : X.mg nm = some (.ref f)) (hk : PySem.W.keepIn X.K (.ref f) = true) (hb : Binds X.K fd ps []) (ha : PA X (a :: es) (tA C xs)) (hn : xs.length = n)
    (hdb : (nm == ("__debug__" : Str)) = false := by decide) (he : starEach (a :: es) X.env = (false, eval a X.env) :: starEach es X.env := by rfl) (hpl : (backTo pos (starEach es X.env)).any (·.1) = false := by rfl) :
    PE X (.Call (.Name nm p) (a :: es) [] pos) (tE C (.call φ xs)) := (pe_call F hr hg hm hk hb .nil pass0 ha hdb he hpl).imp fun σ H Q q => tCall_of hn q
theorem ev_callO {φ : List D → Option (D × D)} {i : Nat} {e e' : Env'} {r : Rv} (h : ev (.callO φ i xs) e = some (r, e')) : ownAt e i = true ∧ ∃ rs e1 ds e2 d0 d d1, evs xs e = some (rs, e1) ∧ settles e1 rs = some (ds, e2) ∧ φ (d0 :: ds) = some (d, d1) ∧ r = .pers d ∧
    ((e2[i]? = some (.ow d0) ∧ e' = e2.set i (.ow d1)) ∨ (e2[i]? = some (.io d0) ∧ e' = e2.set i (.io d1))) := by
  unfold ev at h
  split at h
  · rename_i h0
    refine ⟨h0, ?_⟩
    split at h
    · rename_i rs e1 q
      split at h
      · rename_i ds e2 q2
        split at h
        · rename_i d0 q3
          split at h
          · rename_i d d1 q4
            cases h
            exact ⟨rs, e1, ds, e2, d0, d, d1, q, q2, q4, rfl, .inl ⟨q3, rfl⟩⟩
          · cases h
        · rename_i d0 q3
          split at h
          · rename_i d d1 q4
            cases h
            exact ⟨rs, e1, ds, e2, d0, d, d1, q, q2, q4, rfl, .inr ⟨q3, rfl⟩⟩
          · cases h
        · cases h
      · cases h
    · cases h
  · cases h
theorem Rel.own {F G0 G H G' H' : Hp} {pn : Pn} {σ : St} {e : Env'} {i : Nat} {p : Addr} {b b' : B} {o' : HO} (R : Rel C F G0 G H pn σ e) (hs : σ[i]? = some (some (.ref p))) (hb : e[i]? = some b) (hc : ∃ d d', (b = .ow d ∧ b' = .ow d') ∨ (b = .io d ∧ b' = .io d'))
    (g : GrowO C p G H G' H') (ho : H' p = some o') (hr : ∀ d', b'.data = some d' → RepO C.K G' o' d') : Rel C F G0 G' H' pn σ (e.set i b') := by
  obtain ⟨d, d', hc⟩ := hc
  have hbo : b.isOw = true := by rcases hc with ⟨rfl, _⟩ | ⟨rfl, _⟩ <;> rfl
  have hbo' : b'.isOw = true := by rcases hc with ⟨_, rfl⟩ | ⟨_, rfl⟩ <;> rfl
  have hd' : b'.data = some d' := by rcases hc with ⟨_, rfl⟩ | ⟨_, rfl⟩ <;> rfl
  have hi : i < e.length := (List.getElem?_eq_some_iff.mp hb).1
  have base : G p = none ∧ F p = none ∧ p ∉ C.tt ∧ H p ≠ none ∧ NT (H p) := by
    have q := R.sl i b hb
    rw [hs] at q
    rcases hc with ⟨rfl, _⟩ | ⟨rfl, _⟩
    · obtain ⟨p', o, e2, h1, h2, h3, h4, h5⟩ := q
      cases e2
      exact ⟨h1, h2, h3, (by rw [h4]; exact fun z => nomatch z), repO_nt h4 h5⟩
    · obtain ⟨p', o, e2, h1, h2, h3, h4, h5⟩ := q
      cases e2
      exact ⟨h1, h2, h3, (by rw [h4]; exact fun z => nomatch z), repO_nt h4 h5⟩
  obtain ⟨g1, f1, t1, n1, n2⟩ := base
  have fs : ∀ q, F q ≠ none → H q ≠ none := fun q h => by
    cases z : F q with
    | none => exact absurd z h
    | some o => rw [R.fh q o z]; exact fun z => nomatch z
  have ow0 : Own σ e i p := ⟨hs, b, hb, hbo⟩
  have pk : PinK σ e σ (e.set i b') := PinK.set hb (by rcases hc with ⟨rfl, rfl⟩ | ⟨rfl, rfl⟩; exact .inl rfl; exact .inr rfl)
  have get' : ∀ {j : Nat} {x : B}, (e.set i b')[j]? = some x → x.isOw = true → ∃ y, e[j]? = some y ∧ y.isOw = true := fun {j x} h ho => by
    by_cases hj : i = j
    · subst hj
      exact ⟨b, hb, hbo⟩
    · rw [List.getElem?_set_ne hj] at h
      exact ⟨x, h, ho⟩
  have fe : ∀ q, F q ≠ none → H q = F q := fun q h => by
    cases z : F q with
    | none => exact absurd z h
    | some o => exact R.fh q o z
  refine ⟨fun q o h => ?_, g.gh, fun q h hn => by rw [g.go q (fs q h) (by rw [fe q h]; exact hn)]; exact R.gf q h hn, fun P hP => ⟨g.tb P hP, ?_, (R.tb P hP).2.2⟩, fun j x hx => ?_, fun j m a ⟨a1, x, a2, a3⟩ ⟨b1, y, b2, b3⟩ => ?_, fun j nm fs hx => ?_, fun j x hx => R.fp j x (set_fr hx (fun d z => by rcases hc with ⟨_, rfl⟩ | ⟨_, rfl⟩ <;> cases z)), fun j a ha => ?_, by rw [List.length_set]; exact R.ln⟩
  · have hne : q ∉ C.tt := fun z => by rw [(R.tb q z).2.2] at h; cases h
    have hqp : q ≠ p := fun z => by rw [z, f1] at h; cases h
    rw [g.hh q hqp (by rw [R.fh q o h]; exact fun z => nomatch z) hne]
    exact R.fh q o h
  · rw [g.go P (tabG_some (R.tb P hP).1) (tabG_nt (R.tb P hP).1)]; exact (R.tb P hP).2.1
  · by_cases hj : i = j
    · subst hj
      rw [List.getElem?_set_self hi] at hx
      cases hx
      have fin : ∃ p o, σ[i]? = some (some (.ref p)) ∧ G' p = none ∧ F p = none ∧ p ∉ C.tt ∧ H' p = some o ∧ RepO C.K G' o d' := ⟨p, o', hs, by rw [g.go p n1 n2]; exact g1, f1, t1, ho, hr d' hd'⟩
      rcases hc with ⟨_, rfl⟩ | ⟨_, rfl⟩
      · exact fin
      · exact fin
    · rw [List.getElem?_set_ne hj] at hx
      have q := R.sl j x hx
      have ow : ∀ {p' : Addr} {o : HO} {d : D}, σ[j]? = some (some (.ref p')) → x.isOw = true → G p' = none → F p' = none → p' ∉ C.tt → H p' = some o → RepO C.K G o d → G' p' = none ∧ H' p' = some o ∧ RepO C.K G' o d := fun {p' o d} k0 kx h1 h2 h3 h4 h5 => by
        have hs2 : H p' ≠ none := by rw [h4]; exact fun z => nomatch z
        have hpp : p' ≠ p := fun z => by
          subst z
          exact hj (R.ap i j p' ow0 ⟨k0, x, hx, kx⟩)
        exact ⟨by rw [g.go p' hs2 (repO_nt h4 h5)]; exact h1, by rw [g.hh p' hpp hs2 h3]; exact h4, h5.mono g.gg⟩
      cases x with
      | un => trivial
      | im d2 =>
        obtain ⟨v, h1, h2⟩ := q
        exact ⟨v, h1, h2.mono g.gg⟩
      | ow d2 =>
        obtain ⟨p', o, h0, h1, h2, h3, h4, h5⟩ := q
        obtain ⟨k1, k2, k3⟩ := ow h0 rfl h1 h2 h3 h4 h5
        exact ⟨p', o, h0, k1, h2, h3, k2, k3⟩
      | io d2 =>
        obtain ⟨p', o, h0, h1, h2, h3, h4, h5⟩ := q
        obtain ⟨k1, k2, k3⟩ := ow h0 rfl h1 h2 h3 h4 h5
        exact ⟨p', o, h0, k1, h2, h3, k2, k3⟩
      | ob nm fs => trivial
      | fr d2 =>
        obtain ⟨p', o, h0, h1, h2, h3⟩ := q
        have h4 := R.fh p' o h2
        exact ⟨p', o, h0, by rw [g.go p' (by rw [h4]; exact fun z => nomatch z) (repO_nt h4 h3)]; exact h1, h2, h3.mono g.gg⟩
  · obtain ⟨x', hx', ox'⟩ := get' a2 a3
    obtain ⟨y', hy', oy'⟩ := get' b2 b3
    exact R.ap j m a ⟨a1, x', hx', ox'⟩ ⟨b1, y', hy', oy'⟩
  · have hj : i ≠ j := fun z => by
      subst z
      rw [List.getElem?_set_self hi] at hx
      rcases hc with ⟨_, rfl⟩ | ⟨_, rfl⟩ <;> cases hx
    rw [List.getElem?_set_ne hj] at hx
    obtain ⟨p', k1, k2⟩ := R.ob j nm fs hx
    have hpp : p' ≠ p := fun z => by
      subst z
      exact hj (R.ap i j p' ow0 ⟨k1, _, hx, rfl⟩)
    exact ⟨p', k1, k2.keep (by rw [g.go p' k2.ne k2.nt]; exact k2.1) k2.2.1 (g.hh p' hpp k2.ne k2.2.2.1) g.gg pk⟩
  · obtain ⟨k1, x, k2, k3⟩ := R.pi j a ha
    obtain ⟨_, x2, k4, k5⟩ := pk j x a k2 k3 k1
    exact ⟨k1, x2, k4, k5⟩
theorem ce_callO {φ : List D → Option (D × D)} {i : Nat} {a0 : Str} {p0 : Pos} (F : FnOk X.prog X.w X.K X.mg X.base CX0 k f fd ps (spO C n φ)) (hr : Room k X.A) (hg : Gl X nm) (hm : X.mg nm = some (.ref f)) (hk : PySem.W.keepIn X.K (.ref f) = true) (hb : Binds X.K fd ps [])
    (h0 : PE X (.Name a0 p0) (tVar i)) (ha : PA X es (tA C xs)) (hn : xs.length + 1 = n)
    (hdb : (nm == ("__debug__" : Str)) = false := by decide) (he : starEach (.Name a0 p0 :: es) X.env = (false, eval (.Name a0 p0) X.env) :: starEach es X.env := by rfl) (hpl : (backTo pos (starEach es X.env)).any (·.1) = false := by rfl) :
    PE X (.Call (.Name nm p) (.Name a0 p0 :: es) [] pos) (tE C (.callO φ i xs)) := (pe_call F hr hg hm hk hb .nil pass0 (pa_cons h0 ha he) hdb he hpl).imp fun σ H Q q => by
  obtain ⟨F, G0, G, pn, e, rr, e', R, he, k⟩ := q
  obtain ⟨h0, rs, e1, ds, e2, d0, d, d1, q1, q2, q3, rfl, q4⟩ := ev_callO he
  obtain ⟨p, hv⟩ : ∃ p, σ[i]? = some (some (.ref p)) := by
    unfold ownAt at h0
    split at h0
    · rename_i b hb
      have sl := R.sl i b hb
      cases b with
      | un => cases h0
      | im d => cases h0
      | ow d => obtain ⟨p, o, z, _⟩ := sl; exact ⟨p, z⟩
      | io d => obtain ⟨p, o, z, _⟩ := sl; exact ⟨p, z⟩
      | ob nm fs => cases h0
      | fr d => cases h0
    · cases h0
  refine ⟨.ref p, hv, F, G0, G, pn, e, rs, e1, R, q1, fun vs G1 H1 R1 s1 r1 => ?_⟩
  obtain ⟨G2, s2, R2, r2, _⟩ := Rel.settles R1 r1 q2
  have fin : ∀ {b b' : B}, e2[i]? = some b → e' = e2.set i b' → ((b = .ow d0 ∧ b' = .ow d1) ∨ (b = .io d0 ∧ b' = .io d1)) → spO C n φ ((V.ref p :: vs) ++ []) H1 Q E0 := fun {b b'} hb hb' hc => by
    obtain ⟨o, g1, f1, t1, h1, r0⟩ : ∃ o, G2 p = none ∧ F p = none ∧ p ∉ C.tt ∧ H1 p = some o ∧ RepO C.K G2 o d0 := by
      have sl := R2.sl i b hb
      rw [hv] at sl
      rcases hc with ⟨rfl, _⟩ | ⟨rfl, _⟩
      · obtain ⟨p', o, z, z2⟩ := sl
        cases z
        exact ⟨o, z2⟩
      · obtain ⟨p', o, z, z2⟩ := sl
        cases z
        exact ⟨o, z2⟩
    refine ⟨G2, p, o, d0, vs, ds, d, d1, List.append_nil _, ?_, R2.gh, fun P hP => ⟨(R2.tb P hP).1, (R2.tb P hP).2.1⟩, g1, t1, h1, r0, r2, q3, fun v G3 H3 o3 g rv ho hr => ?_⟩
    · rw [List.append_nil, List.length_cons, r2.length, settles_len q2, evs_len q1]
      exact hn
    · have R3 := R2.own (b := b) (b' := b') hv hb (by
        rcases hc with ⟨rfl, rfl⟩ | ⟨rfl, rfl⟩
        · exact ⟨d0, d1, .inl ⟨rfl, rfl⟩⟩
        · exact ⟨d0, d1, .inr ⟨rfl, rfl⟩⟩) g ho (fun d' hd => by
        rcases hc with ⟨rfl, rfl⟩ | ⟨rfl, rfl⟩
        · cases hd; exact hr
        · cases hd; exact hr)
      rw [← hb'] at R3
      exact k v G3 H3 R3 ((s1.trans s2).trans g.gg) rv
  rcases q4 with ⟨h1, h2⟩ | ⟨h1, h2⟩
  · exact fin h1 h2 (.inl ⟨rfl, rfl⟩)
  · exact fin h1 h2 (.inr ⟨rfl, rfl⟩)
end
end Mi
namespace Mi
open PySem PySem.Spec PyProof.Rows L2 GxR
mutual
def Tg.slots : Tg → List Nat
  | .nm i => [i]
  | .tp ts => Tg.slotsL ts
def Tg.slotsL : List Tg → List Nat
  | [] => []
  | t :: ts => t.slots ++ Tg.slotsL ts
end
def OffS (l : List Nat) (σ σ' : St) : Prop := σ'.length = σ.length ∧ ∀ j, j ∉ l → σ'[j]? = σ[j]?
def tG (C : Cfg) (t : Tg) : TG := fun v σ H Q => ∃ (F G0 G : Hp) (pn : Pn) (e : Env') (d : D) (e' : Env'), Rel C F G0 G H pn σ e ∧ Rep C.K G v d ∧ t.bind d e = some e' ∧ ∀ σ', Rel C F G0 G H pn σ' e' → OffS t.slots σ σ' → Q σ' H
def tGs (C : Cfg) (ts : List Tg) : TGs := fun vs σ H Q => ∃ (F G0 G : Hp) (pn : Pn) (e : Env') (ds : List D) (e' : Env'), Rel C F G0 G H pn σ e ∧ RepL C.K G vs ds ∧ Tg.binds ts ds e = some e' ∧ ∀ σ', Rel C F G0 G H pn σ' e' → OffS (Tg.slotsL ts) σ σ' → Q σ' H
section
variable {X : Cx} {C : Cfg} {F G0 G G' H H' : Hp} {pn : Pn} {σ : St} {e e' : Env'} {v : V} {d : D}
theorem _root_.L2.PG.imp {tg : Expr} {t t' : TG} (h : PG X tg t) (k : ∀ v σ H Q, t' v σ H Q → t v σ H Q) : PG X tg t' := ⟨fun pins s σ H v u Q I r q => h.run pins s σ H v u Q I r (k v σ H Q q)⟩
theorem _root_.L2.PGs.imp {tg : List Expr} {t t' : TGs} (h : PGs X tg t) (k : ∀ v σ H Q, t' v σ H Q → t v σ H Q) : PGs X tg t' := ⟨fun pins s σ H v u Q I r q => h.run pins s σ H v u Q I r (k v σ H Q q)⟩
theorem Rel.put (R : Rel C F G0 G H pn σ e) {i : Nat} {b0 : B} (h0 : e[i]? = some b0) (hn : b0.pin = false) (r : Rep C.K G v d) : Rel C F G0 G H pn (σ.set i (some v)) (e.set i (.im d)) := by
  have hi : i < e.length := (List.getElem?_eq_some_iff.mp h0).1
  have his : i < σ.length := by rw [R.ln]; exact hi
  have back : ∀ {j : Nat} {p : Addr}, Own (σ.set i (some v)) (e.set i (.im d)) j p → Own σ e j p := fun {j p} ⟨a1, b, a2, a3⟩ => by
    by_cases hj : i = j
    · subst hj
      rw [List.getElem?_set_self hi] at a2
      cases a2
      cases a3
    · rw [List.getElem?_set_ne hj] at a1 a2
      exact ⟨a1, b, a2, a3⟩
  have pk : PinK σ e (σ.set i (some v)) (e.set i (.im d)) := PinK.set2 h0 hn
  refine ⟨R.fh, R.gh, R.gf, R.tb, fun j b hb => ?_, fun j k p h1 h2 => R.ap j k p (back h1) (back h2), fun j nm fs hb => ?_, fun j x hx => R.fp j x (set_fr hx (fun _ z => nomatch z)), fun j p hj => ?_, by rw [List.length_set, List.length_set]; exact R.ln⟩
  · by_cases hj : i = j
    · subst hj
      rw [List.getElem?_set_self hi] at hb
      cases hb
      exact ⟨v, List.getElem?_set_self his, r⟩
    · rw [List.getElem?_set_ne hj] at hb
      rw [List.getElem?_set_ne hj]
      exact R.sl j b hb
  · have hne : i ≠ j := fun z => by
      subst z
      rw [List.getElem?_set_self hi] at hb
      cases hb
    rw [List.getElem?_set_ne hne] at hb
    obtain ⟨p, k1, k2⟩ := R.ob j nm fs hb
    exact ⟨p, by rw [List.getElem?_set_ne hne]; exact k1, k2.keep k2.1 k2.2.1 rfl (Same.refl G) pk⟩
  · obtain ⟨k1, b, k2, k3⟩ := R.pi j p hj
    obtain ⟨k4, b2, k5, k6⟩ := pk j b p k2 k3 k1
    exact ⟨k4, b2, k5, k6⟩
theorem bind_nm {i : Nat} (h : (Tg.nm i).bind d e = some e') : ∃ b0, e[i]? = some b0 ∧ b0.pin = false ∧ e' = e.set i (.im d) := by
  unfold Tg.bind at h
  cases q : e[i]? with
  | none => rw [q] at h; cases h
  | some b =>
    rw [q] at h
    cases b with
    | io x => cases h
    | ob nm fs => cases h
    | fr x => cases h
    | un => cases h; exact ⟨_, rfl, rfl, rfl⟩
    | im x => cases h; exact ⟨_, rfl, rfl, rfl⟩
    | ow x => cases h; exact ⟨_, rfl, rfl, rfl⟩
theorem cg_name {i : Nat} {x : Str} {pos : Pos} (h : PG X (.Name x pos) (gName i)) : PG X (.Name x pos) (tG C (.nm i)) := h.imp fun v σ H Q q => by
  obtain ⟨F, G0, G, pn, e, d, e', R, r, hb, k⟩ := q
  obtain ⟨b0, h0, hn, rfl⟩ := bind_nm hb
  exact k _ (R.put h0 hn r) ⟨List.length_set, fun j hj => List.getElem?_set_ne (fun z => hj (by subst z; exact List.mem_cons_self))⟩
theorem cgs_nil : PGs X [] (tGs C []) := pgs_nil.imp fun vs σ H Q q => by
  obtain ⟨F, G0, G, pn, e, ds, e', R, r, hb, k⟩ := q
  cases r with
  | nil =>
    unfold Tg.binds at hb
    cases hb
    exact ⟨rfl, k σ R ⟨rfl, fun j _ => rfl⟩⟩
  | cons a b => unfold Tg.binds at hb; cases hb
theorem cgs_cons {a : Expr} {as : List Expr} {t : Tg} {ts : List Tg} (h1 : PG X a (tG C t)) (h2 : PGs X as (tGs C ts))
    (hs : (assignEach (a :: as) X.env).map (·.2) = assign a X.env :: (assignEach as X.env).map (·.2) := by rfl) : PGs X (a :: as) (tGs C (t :: ts)) := (pgs_cons h1 h2 hs).imp fun vs σ H Q q => by
  obtain ⟨F, G0, G, pn, e, ds, e', R, r, hb, k⟩ := q
  cases r with
  | nil => unfold Tg.binds at hb; cases hb
  | cons ra rb =>
    unfold Tg.binds at hb
    split at hb
    · rename_i e1 q1
      refine ⟨_, _, rfl, F, G0, G, pn, e, _, e1, R, ra, q1, fun σ1 R1 o1 => ⟨F, G0, G, pn, e1, _, e', R1, rb, hb, fun σ2 R2 o2 => k σ2 R2 ⟨o2.1.trans o1.1, fun j hj => ?_⟩⟩⟩
      unfold Tg.slotsL at hj
      rw [o2.2 j (fun z => hj (List.mem_append_right _ z)), o1.2 j (fun z => hj (List.mem_append_left _ z))]
    · cases hb
theorem pgOr {a : Expr} {t t' : TG} (h : PG X a t) (h' : PG X a t') : PG X a (fun v σ H Q => t v σ H Q ∨ t' v σ H Q) := ⟨fun pins s σ H v u Q I r q => q.elim (h.run pins s σ H v u Q I r) (h'.run pins s σ H v u Q I r)⟩
theorem cg_tup {es : List Expr} {n k : Nat} {ts : List Tg} {pos : Pos} (hc : X.calm = true) (hK : C.K.f = X.K) (h : PGs X es (tGs C ts)) (hl : ts.length = n)
    (hn : (assignEach es X.env).length = n := by rfl) (hst : (assignEach es X.env).findIdx? (·.1) = none := by rfl) : PG X (.Tuple es k pos) (tG C (.tp ts)) := (pgOr (pg_tup (n := n) hc h hn hst) (pg_unl (n := n) hc h hn hst)).imp fun v σ H Q q => by
  obtain ⟨F, G0, G, pn, e, d, e', R, r, hb, k⟩ := q
  have bl : ∀ {ts : List Tg} {ds : List D} {e e' : Env'}, Tg.binds ts ds e = some e' → ds.length = ts.length := by
    intro ts
    induction ts with
    | nil => intro ds e e' h; cases ds with
      | nil => rfl
      | cons d ds => unfold Tg.binds at h; cases h
    | cons t ts ih => intro ds e e' h; cases ds with
      | nil => unfold Tg.binds at h; cases h
      | cons d ds =>
        unfold Tg.binds at h
        split at h
        · exact congrArg Nat.succ (ih h)
        · cases h
  cases r with
  | tup qt rl =>
    unfold Tg.bind at hb
    refine .inl ⟨_, _, rfl, ?_, by rw [rl.length, bl hb]; exact hl, F, G0, G, pn, e, _, e', R, rl, hb, fun σ' R' o => k σ' R' (by unfold Tg.slots; exact o)⟩
    rw [← hK]
    exact SqT.of (R.gh _ _ qt)
  | non => unfold Tg.bind at hb; cases hb
  | bl b => unfold Tg.bind at hb; cases hb
  | int i => unfold Tg.bind at hb; cases hb
  | str s => unfold Tg.bind at hb; cases hb
  | lst qt rl =>
    unfold Tg.bind at hb
    refine .inr ⟨_, _, rfl, ?_, by rw [rl.length, bl hb]; exact hl, F, G0, G, pn, e, _, e', R, rl, hb, fun σ' R' o => k σ' R' (by unfold Tg.slots; exact o)⟩
    rw [← hK]
    exact SqL.of (R.gh _ _ qt)
  | scr qt => unfold Tg.bind at hb; cases hb
  | fn qt => unfold Tg.bind at hb; cases hb
  | ptp q qe rr => unfold Tg.bind at hb; cases hb
  | dK a1 a2 a3 => unfold Tg.bind at hb; cases hb
  | dT a1 a2 a3 => unfold Tg.bind at hb; cases hb
  | ndc a1 a2 a3 a4 a5 a6 => unfold Tg.bind at hb; cases hb
structure Walks (C : Cfg) (G : Hp) (J : It) (items : List D) : Prop where
  go : ∀ i G1 H, i < items.length → Same G G1 → Same G1 H → J.go i H
  stop : ∀ i G1 H, i = items.length → Same G G1 → Same G1 H → J.stop i H
  yld : ∀ (i : Nat) (d : D) (G1 H H' : Hp) (x : V), items[i]? = some d → Same G G1 → Same G1 H → (∀ P ∈ C.tt, TabC C H P) → J.yld i H x H' → ∃ G2, Grow C G1 H G2 H' ∧ Rep C.K G2 x d
structure WalksF (C : Cfg) (F G : Hp) (J : It) (items : List D) : Prop where
  go : ∀ i G1 H, i < items.length → Same G G1 → Same G1 H → Same F H → J.go i H
  stop : ∀ i G1 H, i = items.length → Same G G1 → Same G1 H → Same F H → J.stop i H
  yld : ∀ (i : Nat) (d : D) (G1 H H' : Hp) (x : V), items[i]? = some d → Same G G1 → Same G1 H → Same F H → (∀ P ∈ C.tt, TabC C H P) → J.yld i H x H' → ∃ G2, Grow C G1 H G2 H' ∧ Rep C.K G2 x d
theorem Walks.toF {C : Cfg} {G : Hp} {J : It} {items : List D} (w : Walks C G J items) (F : Hp) : WalksF C F G J items := ⟨fun i G1 H h s1 s2 _ => w.go i G1 H h s1 s2, fun i G1 H h s1 s2 _ => w.stop i G1 H h s1 s2, fun i d G1 H H' x h s1 s2 _ => w.yld i d G1 H H' x h s1 s2⟩
def tI (C : Cfg) (g : List D → Option (List D)) (xs : List Ex) : TI := fun σ H R => ∃ (F G0 G : Hp) (pn : Pn) (e : Env') (rs : List Rv) (e1 : Env') (ds : List D) (e2 : Env') (items : List D), Rel C F G0 G H pn σ e ∧ evs xs e = some (rs, e1) ∧ settles e1 rs = some (ds, e2) ∧ g ds = some items ∧
  ∀ J G' H', Rel C F G0 G' H' pn σ e2 → Same G G' → Walks C G' J items → R J H'
theorem _root_.L2.PI.imp {tg it : Expr} {t t' : TI} (h : PI X tg it t) (k : ∀ σ H R, t' σ H R → t σ H R) : PI X tg it t' := ⟨fun pins s σ H R I q => h.run pins s σ H R I (k σ H R q)⟩
def itemsF : List D → Option (List D) := fun ds => match ds with
  | [.lst l] => some l
  | [.tup l] => some l
  | [.str s] => some (s.map fun c => .str [c])
  | _ => none
theorem walks_list {a : Addr} {xs : List V} {ds : List D} (q : SqL C.K G a xs) (r : RepL C.K G xs ds) : Walks C G (Itl C.K a) ds where
  go := fun i G1 H hi s1 s2 => by
    have hx : i < xs.length := by rw [r.length]; exact hi
    exact ⟨xs, xs[i], (s1.trans s2).seq q, List.getElem?_eq_getElem hx⟩
  stop := fun i G1 H hi s1 s2 => ⟨xs, (s1.trans s2).seq q, by rw [r.length]; exact Nat.le_of_eq hi.symm⟩
  yld := fun i d G1 H H' x hd s1 s2 t y => by
    obtain ⟨rfl, y⟩ := y
    obtain ⟨v, hv, rv⟩ := r.getD hd
    have e1 := y xs ((s1.trans s2).seq q)
    rw [hv] at e1
    cases e1
    exact ⟨G1, Grow.refl s2 t, rv.mono s1⟩
theorem walks_tup {a : Addr} {xs : List V} {ds : List D} (q : SqT C.K G a xs) (r : RepL C.K G xs ds) : Walks C G (Itt C.K a) ds where
  go := fun i G1 H hi s1 s2 => by
    have hx : i < xs.length := by rw [r.length]; exact hi
    exact ⟨xs, xs[i], (s1.trans s2).seqT q, List.getElem?_eq_getElem hx⟩
  stop := fun i G1 H hi s1 s2 => ⟨xs, (s1.trans s2).seqT q, by rw [r.length]; exact Nat.le_of_eq hi.symm⟩
  yld := fun i d G1 H H' x hd s1 s2 t y => by
    obtain ⟨rfl, y⟩ := y
    obtain ⟨v, hv, rv⟩ := r.getD hd
    have e1 := y xs ((s1.trans s2).seqT q)
    rw [hv] at e1
    cases e1
    exact ⟨G1, Grow.refl s2 t, rv.mono s1⟩
theorem walks_str {s : List Nat} : Walks C G (Its ⟨s.toArray⟩) (s.map fun c => D.str [c]) where
  go := fun i G1 H hi s1 s2 => by
    show i < s.toArray.size
    simpa using hi
  stop := fun i G1 H hi0 s1 s2 => by
    have hi := Nat.le_of_eq hi0.symm
    show s.toArray.size ≤ i
    simpa using hi
  yld := fun i d G1 H H' x hd s1 s2 t y => by
    obtain ⟨rfl, c, hc, rfl⟩ := y
    refine ⟨G1, Grow.refl s2 t, ?_⟩
    rw [List.getElem?_map] at hd
    have hc' : s[i]? = some c := by simpa using hc
    rw [hc'] at hd
    cases hd
    exact .str [c]
theorem tE_one {f : List D → Option (List D)} {x : Ex} {rs : List Rv} {e1 : Env'} (h : evs [x] e = some (rs, e1)) : ∃ r, ev x e = some (r, e1) ∧ rs = [r] := by
  unfold evs at h
  split at h
  · rename_i r e2 q
    unfold evs at h
    cases h
    exact ⟨r, q, rfl⟩
  · cases h
theorem settles_one {r : Rv} {ds : List D} {e1 e2 : Env'} (h : settles e1 [r] = some (ds, e2)) : ∃ d, r.settle e1 = some (d, e2) ∧ ds = [d] := by
  unfold settles at h
  split at h
  · rename_i d e3 q
    unfold settles at h
    cases h
    exact ⟨d, q, rfl⟩
  · cases h
def listF : List D → Option (List D) := fun ds => match ds with
  | [.lst l] => some l
  | _ => none
def tupF : List D → Option (List D) := fun ds => match ds with
  | [.tup l] => some l
  | _ => none
def strF : List D → Option (List D) := fun ds => match ds with
  | [.str s] => some (s.map fun c => .str [c])
  | _ => none
variable {tg a : Expr} {x : Ex}
theorem ci_list (hK : C.K.f = X.K) (ha : PE X a (tE C x)) : PI X tg a (tI C listF [x]) := (pi_list ha).imp fun σ H R q => by
  obtain ⟨F, G0, G, pn, e, rs, e1, ds, e2, items, Rr, q1, q2, q3, k⟩ := q
  obtain ⟨r, q4, rfl⟩ := tE_one (f := listF) q1
  obtain ⟨d, q5, rfl⟩ := settles_one q2
  refine ⟨F, G0, G, pn, e, r, e1, Rr, q4, fun v G1 H1 R1 s1 rv => ?_⟩
  obtain ⟨G2, s2, R2, r2, _⟩ := R1.settle rv q5
  unfold listF at q3
  split at q3
  · rename_i l hl
    cases hl
    cases q3
    cases r2 with
    | lst qq rr =>
      refine ⟨_, rfl, ⟨_, SqL.of (R2.gh _ _ qq)⟩, ?_⟩
      rw [← hK]
      exact k _ G2 H1 R2 (s1.trans s2) (walks_list (SqL.of qq) rr)
  · cases q3
theorem ci_tup (hK : C.K.f = X.K) (ha : PE X a (tE C x)) : PI X tg a (tI C tupF [x]) := (pi_tup ha).imp fun σ H R q => by
  obtain ⟨F, G0, G, pn, e, rs, e1, ds, e2, items, Rr, q1, q2, q3, k⟩ := q
  obtain ⟨r, q4, rfl⟩ := tE_one (f := tupF) q1
  obtain ⟨d, q5, rfl⟩ := settles_one q2
  refine ⟨F, G0, G, pn, e, r, e1, Rr, q4, fun v G1 H1 R1 s1 rv => ?_⟩
  obtain ⟨G2, s2, R2, r2, _⟩ := R1.settle rv q5
  unfold tupF at q3
  split at q3
  · rename_i l hl
    cases hl
    cases q3
    cases r2 with
    | tup qq rr =>
      refine ⟨_, rfl, ⟨_, SqT.of (R2.gh _ _ qq)⟩, ?_⟩
      rw [← hK]
      exact k _ G2 H1 R2 (s1.trans s2) (walks_tup (SqT.of qq) rr)
  · cases q3
theorem ci_str (ha : PE X a (tE C x)) : PI X tg a (tI C strF [x]) := (pi_str ha).imp fun σ H R q => by
  obtain ⟨F, G0, G, pn, e, rs, e1, ds, e2, items, Rr, q1, q2, q3, k⟩ := q
  obtain ⟨r, q4, rfl⟩ := tE_one (f := strF) q1
  obtain ⟨d, q5, rfl⟩ := settles_one q2
  refine ⟨F, G0, G, pn, e, r, e1, Rr, q4, fun v G1 H1 R1 s1 rv => ?_⟩
  obtain ⟨G2, s2, R2, r2, _⟩ := R1.settle rv q5
  unfold strF at q3
  split at q3
  · rename_i l hl
    cases hl
    cases q3
    cases r2 with
    | str s => exact ⟨_, rfl, k _ G2 H1 R2 (s1.trans s2) walks_str⟩
  · cases q3
def rangeL (a : Int) (n : Nat) (c : Int) : List D := (List.range n).map fun (i : Nat) => D.int (a + (i : Int) * c)
theorem rangeL_get {a c : Int} {n i : Nat} {d : D} (h : (rangeL a n c)[i]? = some d) : d = .int (a + (i : Int) * c) := by
  unfold rangeL at h
  rw [List.getElem?_map] at h
  cases q : (List.range n)[i]? with
  | none => rw [q] at h; cases h
  | some j =>
    rw [q] at h
    cases h
    have : j = i := by
      have := (List.getElem?_eq_some_iff.mp q).2
      simpa using this.symm
    rw [this]
def range1F : List D → Option (List D) := fun ds => match ds with
  | [.int n] => if n < 4611686018427387904 ∧ -4611686018427387904 ≤ n then some (rangeL 0 n.toNat 1) else none
  | _ => none
def range2F : List D → Option (List D) := fun ds => match ds with
  | [.int a, .int b] => if (a < 4611686018427387904 ∧ -4611686018427387904 ≤ a) ∧ (b < 4611686018427387904 ∧ -4611686018427387904 ≤ b) then some (rangeL a (b - a).toNat 1) else none
  | _ => none
theorem walks_r {lo : Int} {n : Nat} : Walks C G (Itr lo n) (rangeL lo n 1) where
  go := fun i G1 H hi s1 s2 => by
    show i < n
    simpa [rangeL] using hi
  stop := fun i G1 H hi0 s1 s2 => by
    have hi := Nat.le_of_eq hi0.symm
    show n ≤ i
    simpa [rangeL] using hi
  yld := fun i d G1 H H' x hd s1 s2 t y => by
    obtain ⟨rfl, rfl⟩ := y
    rw [rangeL_get hd, Int.mul_one]
    exact ⟨G1, Grow.refl s2 t, .int _⟩
theorem tA_ints {f : List D → Option (List D)} {xs : List Ex} {σ : St} {H : Hp} {R : It → Hp → Prop} {T : List V → Hp → Prop} (q : tI C f xs σ H R)
    (h : ∀ (vs : List V) (ds : List D) (items : List D) (G1 H1 : Hp), RepL C.K G1 vs ds → f ds = some items → (∀ J, (∀ G', Walks C G' J items) → R J H1) → T vs H1) : tA C xs σ H T := by
  obtain ⟨F, G0, G, pn, e, rs, e1, ds, e2, items, Rr, q1, q2, q3, k⟩ := q
  refine ⟨F, G0, G, pn, e, rs, e1, Rr, q1, fun vs G1 H1 R1 s1 r1 => ?_⟩
  obtain ⟨G2, s2, R2, r2, _⟩ := Rel.settles R1 r1 q2
  exact h vs ds items G2 H1 r2 q3 fun J w => k J G2 H1 R2 (s1.trans s2) (w G2)
variable {b c : Expr} {y z : Ex} {p pos : Pos}
theorem ci_range1 (hg : Gl X "range") (hm : X.mg "range" = none) (ha : PA X [a] (tA C [x])) (hs : starEach [a] X.env = [(false, eval a X.env)] := by rfl) : PI X tg (.Call (.Name "range" p) [a] [] pos) (tI C range1F [x]) := (pi_range1 hg hm ha hs).imp fun σ H R q => by
  refine tA_ints q fun vs ds items G1 H1 r h k => ?_
  unfold range1F at h
  split at h
  · split at h
    · rename_i n hn
      cases h
      cases r with
      | cons r0 rr =>
        cases r0
        cases rr
        refine ⟨n, rfl, ?_, ?_, k _ fun G' => walks_r⟩
        · have := hn.2; omega
        · have := hn.1; omega
    · cases h
  · cases h
theorem ci_range2 (hg : Gl X "range") (hm : X.mg "range" = none) (ha : PA X [a, b] (tA C [x, y])) (hs : starEach [a, b] X.env = [(false, eval a X.env), (false, eval b X.env)] := by rfl) (hs2 : starEach [b] X.env = [(false, eval b X.env)] := by rfl) :
    PI X tg (.Call (.Name "range" p) [a, b] [] pos) (tI C range2F [x, y]) := (pi_range2 hg hm ha hs hs2).imp fun σ H R q => by
  refine tA_ints q fun vs ds items G1 H1 r h k => ?_
  unfold range2F at h
  split at h
  · split at h
    · rename_i n m hn
      cases h
      cases r with
      | cons r0 rr =>
        cases r0
        cases rr with
        | cons r0 rr =>
          cases r0
          cases rr
          refine ⟨n, m, rfl, ?_, k _ fun G' => walks_r⟩
          have h1 := hn.1.1
          have h2 := hn.1.2
          have h3 := hn.2.1
          have h4 := hn.2.2
          omega
    · cases h
  · cases h
end
end Mi
namespace Mi
open PySem PySem.Spec PyProof.Rows L2 GxR
section
variable {X : Cx} {C : Cfg} {F G0 G G' H H' : Hp} {pn : Pn} {σ : St} {e e' : Env'} {v : V} {d : D}
theorem wipe_off {i : Nat} : ∀ {vs : List Nat}, i ∉ vs → (wipe σ vs)[i]? = σ[i]?
  | [], _ => rfl
  | v :: vs, h => by
    unfold wipe
    rw [List.getElem?_set_ne (fun z => h (by rw [z]; exact List.mem_cons_self))]
    exact wipe_off (fun z => h (List.mem_cons_of_mem _ z))
theorem wipe_in {i : Nat} : ∀ {vs : List Nat}, i ∈ vs → (L2.wipe σ vs)[i]? = if i < σ.length then some none else none
  | v :: vs, h => by
    unfold L2.wipe
    by_cases hv : v = i
    · subst hv
      by_cases hlt : v < σ.length
      · rw [if_pos hlt, List.getElem?_set_self (by rw [wipe_length]; exact hlt)]
      · rw [if_neg hlt, List.getElem?_eq_none (by rw [List.length_set, wipe_length]; omega)]
    · rw [List.getElem?_set_ne hv]
      rcases List.mem_cons.mp h with z | z
      · exact absurd z.symm hv
      · exact wipe_in z
theorem Rel.wipe (R : Rel C F G0 G H pn σ e) {vs : List Nat} (hv : NoPin vs e) : Rel C F G0 G H pn (L2.wipe σ vs) (wipeE e vs) := by
  have keep : ∀ {i : Nat} {b : B}, (wipeE e vs)[i]? = some b → b = .un ∨ (i ∉ vs ∧ e[i]? = some b) := fun {i b} hb => by
    by_cases hi : i ∈ vs
    · exact .inl (wipeE_in hi hb)
    · exact .inr ⟨hi, by rw [← wipeE_off hi]; exact hb⟩
  have back : ∀ {j : Nat} {p : Addr}, Own (L2.wipe σ vs) (wipeE e vs) j p → Own σ e j p := fun {j p} ⟨a1, b, a2, a3⟩ => by
    rcases keep a2 with z | ⟨hi, z⟩
    · rw [z] at a3; cases a3
    · exact ⟨by rw [← wipe_off hi]; exact a1, b, z, a3⟩
  have pk : PinK σ e (L2.wipe σ vs) (wipeE e vs) := fun g b q h1 h2 h3 => by
    have hg := hv g b h1 h2
    exact ⟨by rw [wipe_off hg]; exact h3, b, by rw [wipeE_off hg]; exact h1, h2⟩
  refine ⟨R.fh, R.gh, R.gf, R.tb, fun i b hb => ?_, fun i j p h1 h2 => R.ap i j p (back h1) (back h2), fun i nm fs hb => ?_, fun i d hb => ?_, fun i p hi => ?_, by rw [wipe_length, wipeE_len]; exact R.ln⟩
  · rcases keep hb with rfl | ⟨hi, z⟩
    · trivial
    · rw [wipe_off hi]; exact R.sl i b z
  · rcases keep hb with z | ⟨hi, z⟩
    · cases z
    · obtain ⟨p, k1, k2⟩ := R.ob i nm fs z
      exact ⟨p, by rw [wipe_off hi]; exact k1, k2.keep k2.1 k2.2.1 rfl (Same.refl G) pk⟩
  · rcases keep hb with z | ⟨hi, z⟩
    · cases z
    · exact R.fp i d z
  · obtain ⟨k1, b, k2, k3⟩ := R.pi i p hi
    obtain ⟨k4, b2, k5, k6⟩ := pk i b p k2 k3 k1
    exact ⟨k4, b2, k5, k6⟩
theorem soft_at {vs : List Nat} (h : softE e vs = true) {i : Nat} (hi : i ∈ vs) : ∃ b, e[i]? = some b ∧ b.isOw = false ∧ b.pin = false := by
  have q := List.all_eq_true.mp h i hi
  split at q
  · rename_i b hb
    exact ⟨b, hb, by simpa using q⟩
  · cases q
theorem soft_pin {vs : List Nat} (h : softE e vs = true) : NoPin vs e := fun i b hb hp z => by
  obtain ⟨b2, h1, _, h3⟩ := soft_at h z
  rw [hb] at h1
  cases h1
  rw [hp] at h3
  cases h3
theorem Rel.back {G2 H2 : Hp} {vs : List Nat} {e7 : Env'} (R0 : Rel C F G0 G H pn σ e) (hs : softE e vs = true) (R : Rel C F G0 G2 H2 pn (L2.wipe σ vs) e7) (s : Same G G2) : Rel C F G0 G2 H2 pn σ (backE e e7 vs) := by
  have ll : e.length = e7.length := by rw [← R0.ln, ← R.ln, wipe_length]
  have keep : ∀ {i : Nat} {b : B}, (backE e e7 vs)[i]? = some b → (i ∈ vs ∧ e[i]? = some b ∧ b.isOw = false ∧ b.pin = false) ∨ (i ∉ vs ∧ e7[i]? = some b) := fun {i b} hb => by
    by_cases hi : i ∈ vs
    · obtain ⟨b2, h1, h2, h3⟩ := soft_at hs hi
      rw [backE_in ll hi h1] at hb
      cases hb
      exact .inl ⟨hi, h1, h2, h3⟩
    · exact .inr ⟨hi, by rw [← backE_off hi]; exact hb⟩
  have back : ∀ {j : Nat} {p : Addr}, Own σ (backE e e7 vs) j p → Own (L2.wipe σ vs) e7 j p := fun {j p} ⟨a1, b, a2, a3⟩ => by
    rcases keep a2 with ⟨_, _, z, _⟩ | ⟨hi, z⟩
    · rw [z] at a3; cases a3
    · exact ⟨by rw [wipe_off hi]; exact a1, b, z, a3⟩
  have pv : ∀ {g : Nat} {q : Addr} {b : B}, e7[g]? = some b → b.pin = true → (L2.wipe σ vs)[g]? = some (some (.ref q)) → g ∉ vs := fun {g q b} h1 h2 h3 hg => by
    rw [wipe_in hg] at h3
    split at h3 <;> cases h3
  have pk : PinK (L2.wipe σ vs) e7 σ (backE e e7 vs) := fun g b q h1 h2 h3 => by
    have hg := pv h1 h2 h3
    exact ⟨by rw [← wipe_off hg]; exact h3, b, by rw [backE_off hg]; exact h1, h2⟩
  refine ⟨R.fh, R.gh, R.gf, R.tb, fun i b hb => ?_, fun i j p h1 h2 => R.ap i j p (back h1) (back h2), fun i nm fs hb => ?_, fun i d hb => ?_, fun i p hi => ?_, by rw [backE_len, ← ll]; exact R0.ln⟩
  · rcases keep hb with ⟨_, z, zo, zp⟩ | ⟨hi, z⟩
    · have q := R0.sl i b z
      cases b with
      | un => trivial
      | im d =>
        obtain ⟨w, k1, k2⟩ := q
        exact ⟨w, k1, k2.mono s⟩
      | ow d => cases zo
      | io d => cases zo
      | ob nm fs => cases zo
      | fr d => cases zp
    · have q := R.sl i b z
      rw [wipe_off hi] at q
      exact q
  · rcases keep hb with ⟨_, _, z, _⟩ | ⟨hi, z⟩
    · cases z
    · obtain ⟨p, k1, k2⟩ := R.ob i nm fs z
      exact ⟨p, by rw [← wipe_off hi]; exact k1, k2.keep k2.1 k2.2.1 rfl (Same.refl G2) pk⟩
  · rcases keep hb with ⟨_, _, _, z⟩ | ⟨hi, z⟩
    · cases z
    · exact R.fp i d z
  · obtain ⟨k3, b, k4, k5⟩ := R.pi i p hi
    obtain ⟨k6, b2, k7, k8⟩ := pk i b p k4 k5 k3
    exact ⟨k6, b2, k7, k8⟩
theorem same_upd {F H : Hp} {p : Addr} {o : HO} (h : Same (upd F p o) H) (f : F p = none) : Same F H := fun b u hb => h b u (by rw [upd_ne (ne_of_none hb f)]; exact hb)
def noG (G : Hp) (p : Addr) : Hp := fun b => if b = p then none else G b
theorem Rel.fr1 {Dp : Addr} {o : HO} (R : Rel C F G0 G H pn σ e) (hD : H Dp = some o) (gD : G Dp = none) (fD : F Dp = none) (ho : ∀ i, ¬ Own σ e i Dp) (ht : Dp ∉ C.tt) : Rel C (upd F Dp o) (noG G0 Dp) G H pn σ e := by
  refine ⟨fun b u h => ?_, R.gh, fun b h hn => ?_, fun P hP => ⟨(R.tb P hP).1, (R.tb P hP).2.1, ?_⟩, fun i b hb => ?_, R.ap, fun i nm fs hb => ?_, R.fp, R.pi, R.ln⟩
  · by_cases z : b = Dp
    · rw [z, upd_same] at h; cases h; rw [z]; exact hD
    · rw [upd_ne z] at h; exact R.fh b u h
  · unfold noG
    by_cases z : b = Dp
    · rw [if_pos z, z]; exact gD
    · rw [if_neg z]; rw [upd_ne z] at h hn; exact R.gf b h hn
  · rw [upd_ne (fun z => ht (by rw [← z]; exact hP))]; exact (R.tb P hP).2.2
  · have q := R.sl i b hb
    cases b with
    | un => trivial
    | im d => exact q
    | ow d =>
      obtain ⟨p, o', k0, k1, k2, k3, k4, k5⟩ := q
      exact ⟨p, o', k0, k1, by rw [upd_ne (fun z => ho i (by rw [← z]; exact ⟨k0, _, hb, rfl⟩))]; exact k2, k3, k4, k5⟩
    | io d =>
      obtain ⟨p, o', k0, k1, k2, k3, k4, k5⟩ := q
      exact ⟨p, o', k0, k1, by rw [upd_ne (fun z => ho i (by rw [← z]; exact ⟨k0, _, hb, rfl⟩))]; exact k2, k3, k4, k5⟩
    | ob nm fs => trivial
    | fr d =>
      obtain ⟨p, o', k0, k1, k2, k3⟩ := q
      exact ⟨p, o', k0, k1, by rw [upd_ne (fun z => by rw [z, fD] at k2; cases k2)]; exact k2, k3⟩
  · obtain ⟨p, k1, k2⟩ := R.ob i nm fs hb
    exact ⟨p, k1, k2.keep k2.1 (by rw [upd_ne (fun z => ho i (by rw [← z]; exact ⟨k1, _, hb, rfl⟩))]; exact k2.2.1) rfl (Same.refl G) PinK.refl⟩
theorem Rel.un1 {Dp : Addr} {o o' : HO} (R : Rel C (upd F Dp o) (noG G0 Dp) G H pn σ e) (fD : F Dp = none) (ht : Dp ∉ C.tt) (hf : ∀ i p, (i, p) ∈ pn → p ≠ Dp) (ho1 : NT (some o) := by (intro xs z; cases z)) (ho2 : ∀ c q, o ≠ LamX.CodeO c q := by (intro c q z; unfold LamX.CodeO at z; cases z)) : H Dp = some o ∧ G Dp = none ∧ (∀ i, ¬ Own σ e i Dp) ∧ Rel C F G0 G (upd H Dp o') pn σ e := by
  have gD : G Dp = none := by
    have q := R.gf Dp (by rw [upd_same]; exact fun z => nomatch z) (by rw [upd_same]; exact ho1)
    rw [q]
    unfold noG
    rw [if_pos rfl]
  have ho : ∀ i, ¬ Own σ e i Dp := fun i z => by
    have q := (R.ownH z).2.2.1
    rw [upd_same] at q
    cases q
  refine ⟨R.fh Dp o upd_same, gD, ho, ⟨fun b u h => ?_, fun b u h => ?_, fun b h hn => ?_, fun P hP => ⟨?_, (R.tb P hP).2.1, ?_⟩, fun i b hb => ?_, R.ap, fun i nm fs hb => ?_, R.fp, R.pi, R.ln⟩⟩
  · have hb := ne_of_none h fD
    rw [upd_ne hb]
    exact R.fh b u (by rw [upd_ne hb]; exact h)
  · rw [upd_ne (ne_of_none h gD)]; exact R.gh b u h
  · have hb : b ≠ Dp := fun z => h (by rw [z]; exact fD)
    have q := R.gf b (by rw [upd_ne hb]; exact h) (by rw [upd_ne hb]; exact hn)
    rw [q]
    unfold noG
    rw [if_neg hb]
  · refine (R.tb P hP).1.keep (upd_ne fun z => ht (by rw [← z]; exact hP)) fun c φ e => ?_
    rw [upd_ne (fun z => by rw [z, R.fh Dp o upd_same] at e; exact ho2 _ _ (Option.some.inj e))]; exact e
  · have q := (R.tb P hP).2.2
    rw [upd_ne (fun z => ht (by rw [← z]; exact hP))] at q
    exact q
  · have q := R.sl i b hb
    cases b with
    | un => trivial
    | im d => exact q
    | ow d =>
      obtain ⟨p, o', k0, k1, k2, k3, k4, k5⟩ := q
      have hp : p ≠ Dp := fun z => ho i (by rw [← z]; exact ⟨k0, _, hb, rfl⟩)
      rw [upd_ne hp] at k2
      exact ⟨p, o', k0, k1, k2, k3, by rw [upd_ne hp]; exact k4, k5⟩
    | io d =>
      obtain ⟨p, o', k0, k1, k2, k3, k4, k5⟩ := q
      have hp : p ≠ Dp := fun z => ho i (by rw [← z]; exact ⟨k0, _, hb, rfl⟩)
      rw [upd_ne hp] at k2
      exact ⟨p, o', k0, k1, k2, k3, by rw [upd_ne hp]; exact k4, k5⟩
    | ob nm fs => trivial
    | fr d =>
      obtain ⟨p, o', k0, k1, k2, k3⟩ := q
      have hp : p ≠ Dp := by
        obtain ⟨p2, hp2⟩ := R.fp i d hb
        have := (R.pi i p2 hp2).1
        rw [k0] at this
        cases this
        exact hf i p hp2
      rw [upd_ne hp] at k2
      exact ⟨p, o', k0, k1, k2, k3⟩
  · obtain ⟨p, k1, k2⟩ := R.ob i nm fs hb
    have hp : p ≠ Dp := fun z => ho i (by rw [← z]; exact ⟨k1, _, hb, rfl⟩)
    have f2 := k2.2.1
    rw [upd_ne hp] at f2
    exact ⟨p, k1, k2.keep k2.1 f2 (upd_ne hp) (Same.refl G) PinK.refl⟩
def tTs (C : Cfg) (cs : List Ex) : TT := fun σ H Q => ∃ (F G0 G : Hp) (pn : Pn) (e : Env') (e' : Env') (b : Bool), Rel C F G0 G H pn σ e ∧ evt cs e = some (b, e') ∧ ∀ G' H', Rel C F G0 G' H' pn σ e' → Same G G' → Q b H'
theorem _root_.L2.PTs.imp {ifs : List Expr} {t t' : TT} (h : PTs X ifs t) (k : ∀ σ H Q, t' σ H Q → t σ H Q) : PTs X ifs t' := ⟨fun pins s σ H Q I q => h.run pins s σ H Q I (k σ H Q q)⟩
theorem cts_nil : PTs X [] (tTs C []) := pts_nil.imp fun σ H Q q => by
  obtain ⟨F, G0, G, pn, e, e', b, R, he, k⟩ := q
  unfold evt at he
  cases he
  exact k G H R (Same.refl G)
theorem cts_one {c : Expr} {x : Ex} (h : PT X c (tT C x)) : PTs X [c] (tTs C [x]) := (pts_one h).imp fun σ H Q q => by
  obtain ⟨F, G0, G, pn, e, e', b, R, he, k⟩ := q
  unfold evt at he
  split at he
  · rename_i r e1 q1
    split at he
    · rename_i d q2
      split at he
      · rename_i b2 q3
        cases he
        exact ⟨F, G0, G, pn, e, r, _, d, _, R, q1, q2, q3, k⟩
      · cases he
    · cases he
  · cases he
theorem ev_lc {g : List D → Option (List D)} {xs : List Ex} {vs : List Nat} {tg : Tg} {cs : List Ex} {x : Ex} {r : Rv} (h : ev (.lc g xs vs tg cs x) e = some (r, e')) :
    ∃ rs e1 ds e2 items ys e7, evs xs e = some (rs, e1) ∧ settles e1 rs = some (ds, e2) ∧ g ds = some items ∧ softE e2 vs = true ∧
      lcLoop (lcTurn tg vs (fun e => evt cs e) (fun e => ev x e)) items (wipeE e2 vs) = some (ys, e7) ∧ ys.length ≤ 16000000 ∧ r = .pers (.lst ys) ∧ e' = backE e2 e7 vs := by
  unfold ev at h
  split at h
  · rename_i rs e1 q1
    split at h
    · rename_i ds e2 q2
      split at h
      · rename_i items q3
        split at h
        · rename_i hs
          split at h
          · rename_i ys e7 q4
            split at h
            · rename_i hz
              cases h
              exact ⟨rs, e1, ds, e2, items, ys, e7, q1, q2, q3, hs, q4, hz, rfl, rfl⟩
            · cases h
          · cases h
        · cases h
      · cases h
    · cases h
  · cases h
theorem lcLoop_cons {f : D → Env' → Option (List D × Env')} {d : D} {ds : List D} {ys : List D} (h : lcLoop f (d :: ds) e = some (ys, e')) : ∃ y1 e1 y2, f d e = some (y1, e1) ∧ lcLoop f ds e1 = some (y2, e') ∧ ys = y1 ++ y2 := by
  unfold lcLoop at h
  split at h
  · rename_i y1 e1 q1
    split at h
    · rename_i y2 e2 q2
      cases h
      exact ⟨y1, e1, y2, q1, q2, rfl⟩
    · cases h
  · cases h
theorem offS_wipe {vs l : List Nat} {σ σ' : St} (hl : ∀ i ∈ l, i ∈ vs) (o : OffS l (L2.wipe σ vs) σ') : L2.wipe σ' vs = L2.wipe σ vs := by
  have hle : σ'.length = σ.length := by rw [o.1, wipe_length]
  apply List.ext_getElem?
  intro i
  by_cases hi : i ∈ vs
  · rw [wipe_in hi, wipe_in hi, hle]
  · rw [wipe_off hi, o.2 i (fun z => hi (hl i z))]
theorem lc_turns {vs : List Nat} {tg : Tg} {cs : List Ex} {x : Ex} (hsl : ∀ i ∈ tg.slots, i ∈ vs) {σ : St} {items : List D} {J : It} {D0 : Addr} {G1 : Hp} {ys : List D} {e7 : Env'} {Qd : Hp → Prop}
    (W1 : WalksF C F G1 J items) (fD : F D0 = none) (tD : D0 ∉ C.tt) (hp : ∀ i p, (i, p) ∈ pn → p ≠ D0) {acc0 : List V} {ys0 : List D} (hz : (ys0 ++ ys).length ≤ 16000000) {H0 : Hp} {e0 : Env'}
    (np0 : NoPin vs e0) (R0 : Rel C (upd F D0 (.lst acc0)) (noG G0 D0) G1 H0 pn (L2.wipe σ vs) e0) (ra0 : RepL C.K G1 acc0 ys0) (hl0 : lcLoop (lcTurn tg vs (fun e => evt cs e) (fun e => ev x e)) items e0 = some (ys, e7))
    (hend : ∀ (G2 H2 : Hp) (acc : List V), Same G1 G2 → Rel C (upd F D0 (.lst acc)) (noG G0 D0) G2 H2 pn (L2.wipe σ vs) e7 → RepL C.K G2 acc (ys0 ++ ys) → NoPin vs e7 → Qd H2) :
    ∃ W : Nat → Nat → Hp → Prop, (∃ m, W 0 m H0) ∧ ∀ i m H, W i m H →
      (J.stop i H ∧ Qd H) ∨ (J.go i H ∧ ∃ Nx : Hp → Prop, (∀ H', Nx H' → ∃ m', m' < m ∧ W (i + 1) m' H') ∧ ∀ x0 H', J.yld i H x0 H' → tG C tg x0 (L2.wipe σ vs) H' fun σ2 H2 => L2.wipe σ2 vs = L2.wipe σ vs ∧ tTs C cs σ2 H2 fun b H3 =>
        if b = true then tE C x σ2 H3 fun y H4 => ∃ acc, H4 D0 = some (.lst acc) ∧ acc.length < sizeLine ∧ Nx (upd H4 D0 (.lst (acc ++ [y]))) else Nx H3) := by
  let P : Nat → Hp → Prop := fun i H => ∃ (G2 : Hp) (e3 : Env') (acc : List V) (y1 y2 : List D), Same G1 G2 ∧ Rel C (upd F D0 (.lst acc)) (noG G0 D0) G2 H pn (L2.wipe σ vs) e3 ∧ RepL C.K G2 acc y1 ∧
    lcLoop (lcTurn tg vs (fun e => evt cs e) (fun e => ev x e)) (items.drop i) e3 = some (y2, e7) ∧ y1 ++ y2 = ys0 ++ ys ∧ i ≤ items.length ∧ NoPin vs e3
  refine ⟨fun i m H => m = items.length - i ∧ P i H, ⟨_, rfl, G1, e0, acc0, ys0, ys, Same.refl G1, R0, ra0, hl0, rfl, Nat.zero_le _, np0⟩, ?_⟩
  rintro i m H2 ⟨rfl, G2, e3, acc, y1, y2, s2, R2, ra, hl, hy, hi, np⟩
  by_cases hlt : i < items.length
  · refine .inr ⟨W1.go i G2 H2 hlt s2 R2.gh (same_upd R2.fh fD), fun H' => P (i + 1) H', fun H' p => ⟨items.length - (i + 1), by omega, rfl, p⟩, fun x0 H3 yl => ?_⟩
    have hget : items[i]? = some items[i] := List.getElem?_eq_getElem hlt
    obtain ⟨G3, gr, rx⟩ := W1.yld i _ G2 H2 H3 x0 hget s2 R2.gh (same_upd R2.fh fD) R2.tabs yl
    have R3 := R2.grow gr
    rw [List.drop_eq_getElem_cons hlt] at hl
    obtain ⟨y3, e4, y4, t1, t2, rfl⟩ := lcLoop_cons hl
    unfold lcTurn at t1
    have hacc : ∀ y : List D, acc.length + y.length = (y1 ++ y).length := fun y => by rw [ra.length, List.length_append]
    split at t1
    · rename_i e5 b1
      refine ⟨_, _, G3, pn, e3, _, e5, R3, rx, b1, fun σ5 R5 o5 => ?_⟩
      have hw := offS_wipe hsl o5
      refine ⟨hw, ?_⟩
      split at t1
      · rename_i e6 h6
        refine ⟨_, _, G3, pn, e5, e6, true, R5, h6, fun G4 H4 R4 s4 => iteT ?_⟩
        split at t1
        · rename_i r7 e8 h7
          split at t1
          · rename_i y e9 h8
            cases t1
            refine ⟨_, _, G4, pn, e6, r7, e8, R4, h7, fun v G5 H5 R5' s5 rv => ?_⟩
            obtain ⟨G6, s6, R6, r6, _⟩ := R5'.settle rv h8
            obtain ⟨u1, u2, u3, u4⟩ := R6.un1 (o' := .lst (acc ++ [v])) fD tD hp
            have s26 : Same G2 G6 := ((gr.gg.trans s4).trans s5).trans s6
            refine ⟨acc, u1, ?_, G6, wipeE e9 vs, acc ++ [v], y1 ++ [y], y4, s2.trans s26, ?_, (ra.mono s26).append (.cons r6 .nil), t2, ?_, by omega, NoPin.wiped⟩
            · have h9 := lim16 hz
              rw [← hy] at h9
              have : acc.length < (y1 ++ ([y] ++ y4)).length := by
                rw [List.length_append, List.length_append, ra.length]
                simp only [List.length_cons, List.length_nil]
                omega
              omega
            · have R7 := (u4.fr1 (o := .lst (acc ++ [v])) upd_same u2 fD u3 tD).wipe ((((np.kept (bind_kept _ _ _ _ b1).1).kept (evt_kept _ _ _ _ h6).1).kept (ev_kept _ _ _ _ h7).1).kept (settle_kept h8).1)
              rw [hw] at R7
              exact R7
            · rw [← hy, List.append_assoc]
          · cases t1
        · cases t1
      · rename_i e6 h6
        cases t1
        refine ⟨_, _, G3, pn, e5, e6, false, R5, h6, fun G4 H4 R4 s4 => iteF ?_⟩
        have s24 : Same G2 G4 := gr.gg.trans s4
        have R7 := R4.wipe ((np.kept (bind_kept _ _ _ _ b1).1).kept (evt_kept _ _ _ _ h6).1)
        rw [hw] at R7
        exact ⟨G4, wipeE e6 vs, acc, y1, y4, s2.trans s24, R7, ra.mono s24, t2, hy, by omega, NoPin.wiped⟩
      · cases t1
    · cases t1
  · have hid : items.drop i = [] := List.drop_eq_nil_of_le (by omega)
    rw [hid] at hl
    unfold lcLoop at hl
    cases hl
    rw [List.append_nil] at hy
    subst hy
    exact .inl ⟨W1.stop i G2 H2 (by omega) s2 R2.gh (same_upd R2.fh fD), hend G2 H2 acc s2 R2 ra np⟩
theorem wipe_wipe {vs1 vs : List Nat} (h : ∀ i ∈ vs1, i ∈ vs) (σ : St) : L2.wipe (L2.wipe σ vs1) vs = L2.wipe σ vs := by
  apply List.ext_getElem?
  intro i
  by_cases hi : i ∈ vs
  · rw [wipe_in hi, wipe_in hi, wipe_length]
  · rw [wipe_off hi, wipe_off hi, wipe_off (fun z => hi (h i z))]
theorem lc2_turns {vs vs1 : List Nat} {tg tg2 : Tg} {cs1 cs : List Ex} {g2 : List D → Option (List D)} {as2 : List Ex} {x : Ex} (hv1 : ∀ i ∈ vs1, i ∈ vs) (hsl : ∀ i ∈ tg.slots, i ∈ vs) (hsl2 : ∀ i ∈ tg2.slots, i ∈ vs1) {σ : St} {items : List D} {J : It} {D0 : Addr} {G1 : Hp} {ys : List D} {e7 : Env'} {Qd : Hp → Prop}
    (W1 : WalksF C F G1 J items) (fD : F D0 = none) (tD : D0 ∉ C.tt) (hp : ∀ i p, (i, p) ∈ pn → p ≠ D0) (hz : ys.length ≤ 16000000) {H0 : Hp} {e0 : Env'}
    (np0 : NoPin vs e0) (R0 : Rel C (upd F D0 (.lst [])) (noG G0 D0) G1 H0 pn (L2.wipe σ vs) e0) (hl0 : lcLoop (lc2Turn tg vs vs1 tg2 (fun e => evt cs1 e) (fun e => match evs as2 e with
            | some (rs, e5) => (match settles e5 rs with
              | some (ds, e6) => (match g2 ds with
                | some l => some (l, e6)
                | none => none)
              | none => none)
            | none => none) (fun e => evt cs e) (fun e => ev x e)) items e0 = some (ys, e7))
    (hend : ∀ (G2 H2 : Hp) (acc : List V), Same G1 G2 → Rel C (upd F D0 (.lst acc)) (noG G0 D0) G2 H2 pn (L2.wipe σ vs) e7 → RepL C.K G2 acc ys → Qd H2) :
    ∃ W : Nat → Nat → Hp → Prop, (∃ m, W 0 m H0) ∧ ∀ i m H, W i m H →
      (J.stop i H ∧ Qd H) ∨ (J.go i H ∧ ∃ Nx : Hp → Prop, (∀ H', Nx H' → ∃ m', m' < m ∧ W (i + 1) m' H') ∧ ∀ x0 H', J.yld i H x0 H' → tG C tg x0 (L2.wipe σ vs) H' fun σ2 H2 => L2.wipe σ2 vs = L2.wipe σ vs ∧ tTs C cs1 σ2 H2 fun b H3 =>
        if b = true then tI C g2 as2 σ2 H3 fun J1 H4 => ∃ W1 : Nat → Nat → Hp → Prop, (∃ m, W1 0 m H4) ∧ ∀ j k H, W1 j k H →
          (J1.stop j H ∧ Nx H) ∨ (J1.go j H ∧ ∃ Nx1 : Hp → Prop, (∀ H', Nx1 H' → ∃ k', k' < k ∧ W1 (j + 1) k' H') ∧ ∀ x1 H', J1.yld j H x1 H' → tG C tg2 x1 (L2.wipe σ2 vs1) H' fun σ3 H5 => L2.wipe σ3 vs1 = L2.wipe σ2 vs1 ∧ tTs C cs σ3 H5 fun b H6 =>
            if b = true then tE C x σ3 H6 fun y H7 => ∃ acc, H7 D0 = some (.lst acc) ∧ acc.length < sizeLine ∧ Nx1 (upd H7 D0 (.lst (acc ++ [y]))) else Nx1 H6)
        else Nx H3) := by
  let lp : Mi.D → Env' → Option (List Mi.D × Env') := lc2Turn tg vs vs1 tg2 (fun e => evt cs1 e) (fun e => match evs as2 e with
            | some (rs, e5) => (match settles e5 rs with
              | some (ds, e6) => (match g2 ds with
                | some l => some (l, e6)
                | none => none)
              | none => none)
            | none => none) (fun e => evt cs e) (fun e => ev x e)
  let P : Nat → Hp → Prop := fun i H => ∃ (G2 : Hp) (e3 : Env') (acc : List V) (y1 y2 : List D), Same G1 G2 ∧ Rel C (upd F D0 (.lst acc)) (noG G0 D0) G2 H pn (L2.wipe σ vs) e3 ∧ RepL C.K G2 acc y1 ∧
    lcLoop lp (items.drop i) e3 = some (y2, e7) ∧ y1 ++ y2 = ys ∧ i ≤ items.length ∧ NoPin vs e3
  refine ⟨fun i m H => m = items.length - i ∧ P i H, ⟨_, rfl, G1, e0, [], [], ys, Same.refl G1, R0, .nil, hl0, rfl, Nat.zero_le _, np0⟩, ?_⟩
  rintro i m H2 ⟨rfl, G2, e3, acc, y1, y2, s2, R2, ra, hl, hy, hi, np⟩
  by_cases hlt : i < items.length
  · refine .inr ⟨W1.go i G2 H2 hlt s2 R2.gh (same_upd R2.fh fD), fun H' => P (i + 1) H', fun H' p => ⟨items.length - (i + 1), by omega, rfl, p⟩, fun x0 H3 yl => ?_⟩
    have hget : items[i]? = some items[i] := List.getElem?_eq_getElem hlt
    obtain ⟨G3, gr, rx⟩ := W1.yld i _ G2 H2 H3 x0 hget s2 R2.gh (same_upd R2.fh fD) R2.tabs yl
    have R3 := R2.grow gr
    rw [List.drop_eq_getElem_cons hlt] at hl
    obtain ⟨y3, e4, y4, t1, t2, rfl⟩ := lcLoop_cons hl
    have t1' : lc2Turn tg vs vs1 tg2 (fun e => evt cs1 e) (fun e => match evs as2 e with
            | some (rs, e5) => (match settles e5 rs with
              | some (ds, e6) => (match g2 ds with
                | some l => some (l, e6)
                | none => none)
              | none => none)
            | none => none) (fun e => evt cs e) (fun e => ev x e) items[i] e3 = some (y3, e4) := t1
    unfold lc2Turn at t1'
    split at t1'
    · rename_i e5 b1
      refine ⟨_, _, G3, pn, e3, _, e5, R3, rx, b1, fun σ5 R5 o5 => ?_⟩
      have hw := offS_wipe hsl o5
      refine ⟨hw, ?_⟩
      split at t1'
      · rename_i e6 h6
        refine ⟨_, _, G3, pn, e5, e6, true, R5, h6, fun G4 H4 R4 s4 => iteT ?_⟩
        split at t1'
        · rename_i items2 e8 h8
          dsimp only at h8
          split at h8
          · rename_i rs8 e9 q9
            split at h8
            · rename_i ds8 e10 q10
              split at h8
              · rename_i l8 q11
                cases h8
                split at t1'
                · rename_i hsoft
                  split at t1'
                  · rename_i ys8 e11 h11
                    cases t1'
                    refine ⟨_, _, G4, pn, e6, rs8, e9, ds8, e8, items2, R4, q9, q10, q11, fun J1 G5 H5 R5' s5 Wk => ?_⟩
                    have np8 : NoPin vs e8 := (((np.kept (bind_kept _ _ _ _ b1).1).kept (evt_kept _ _ _ _ h6).1).kept (evs_kept _ _ _ _ q9).1).kept (settles_kept q10).1
                    have Rw := R5'.wipe (np8.sub hv1)
                    have s25 : Same G2 G5 := (gr.gg.trans s4).trans s5
                    refine lc_turns hsl2 (Wk.toF F) fD tD hp (acc0 := acc) (ys0 := y1) (ys := y3) ?_ NoPin.wiped Rw (ra.mono s25) h11 fun G6 H6 acc6 s6 R6 ra6 np6 => ?_
                    · have : (y1 ++ (y3 ++ y4)).length ≤ 16000000 := by rw [hy]; exact hz
                      rw [List.length_append, List.length_append] at this
                      rw [List.length_append]
                      omega
                    · have k11 : KeptOff vs1 (wipeE e8 vs1) e11 := (lcLoop_kept (vs := vs1) (fun d ea ya eb hq => lcTurn_kept (fun e1 b e2 h => evt_kept cs _ _ _ h) (fun e1 r e2 h => ev_kept x _ _ _ h) hq) h11).1
                      have R7 := R6.wipe (vs := vs) (fun i b hb hpn hi => by
                        by_cases hi1 : i ∈ vs1
                        · exact np6 i b hb hpn hi1
                        · obtain ⟨b2, y1, y2⟩ := k11.np i hi1 b hb hpn
                          rw [wipeE_off hi1] at y1
                          exact np8 i b2 y1 y2 hi)
                      rw [wipe_wipe hv1, hw] at R7
                      exact ⟨G6, wipeE e11 vs, acc6, y1 ++ y3, y4, s2.trans (s25.trans s6), R7, ra6, t2, by rw [List.append_assoc]; exact hy, by omega, NoPin.wiped⟩
                  · cases t1'
                · cases t1'
              · cases h8
            · cases h8
          · cases h8
        · cases t1'
      · rename_i e6 h6
        cases t1'
        refine ⟨_, _, G3, pn, e5, e6, false, R5, h6, fun G4 H4 R4 s4 => iteF ?_⟩
        have s24 : Same G2 G4 := gr.gg.trans s4
        have R7 := R4.wipe ((np.kept (bind_kept _ _ _ _ b1).1).kept (evt_kept _ _ _ _ h6).1)
        rw [hw] at R7
        exact ⟨G4, wipeE e6 vs, acc, y1, y4, s2.trans s24, R7, ra.mono s24, t2, hy, by omega, NoPin.wiped⟩
      · cases t1'
    · cases t1'
  · have hid : items.drop i = [] := List.drop_eq_nil_of_le (by omega)
    rw [hid] at hl
    unfold lcLoop at hl
    cases hl
    rw [List.append_nil] at hy
    subst hy
    exact .inl ⟨W1.stop i G2 H2 (by omega) s2 R2.gh (same_upd R2.fh fD), hend G2 H2 acc s2 R2 ra⟩
theorem ev_lc2 {g : List D → Option (List D)} {xs : List Ex} {vs : List Nat} {tg : Tg} {cs1 : List Ex} {g2 : List D → Option (List D)} {as2 : List Ex} {vs1 : List Nat} {tg2 : Tg} {cs : List Ex} {x : Ex} {r : Rv} (h : ev (.lc2 g xs vs tg cs1 g2 as2 vs1 tg2 cs x) e = some (r, e')) :
    ∃ rs e1 ds e2 items ys e7, evs xs e = some (rs, e1) ∧ settles e1 rs = some (ds, e2) ∧ g ds = some items ∧ softE e2 vs = true ∧ (∀ i ∈ vs1, i ∈ vs) ∧
      lcLoop (lc2Turn tg vs vs1 tg2 (fun e => evt cs1 e) (fun e => match evs as2 e with
            | some (rs, e5) => (match settles e5 rs with
              | some (ds, e6) => (match g2 ds with
                | some l => some (l, e6)
                | none => none)
              | none => none)
            | none => none) (fun e => evt cs e) (fun e => ev x e)) items (wipeE e2 vs) = some (ys, e7) ∧ ys.length ≤ 16000000 ∧ r = .pers (.lst ys) ∧ e' = backE e2 e7 vs := by
  unfold ev at h
  split at h
  · rename_i rs e1 q1
    split at h
    · rename_i ds e2 q2
      split at h
      · rename_i items q3
        split at h
        · rename_i hs
          obtain ⟨hs1, hs2⟩ := Bool.and_eq_true_iff.mp hs
          split at h
          · rename_i ys e7 q4
            split at h
            · rename_i hz
              cases h
              exact ⟨rs, e1, ds, e2, items, ys, e7, q1, q2, q3, hs1, fun i hi => List.contains_iff_mem.mp (List.all_eq_true.mp hs2 i hi), q4, hz, rfl, rfl⟩
            · cases h
          · cases h
        · cases h
      · cases h
    · cases h
  · cases h
theorem tLc_of {g : List D → Option (List D)} {xs : List Ex} {vs : List Nat} {tg : Tg} {cs : List Ex} {x : Ex} (hsl : ∀ i ∈ tg.slots, i ∈ vs) {σ : St} {H : Hp} {Q : VK} (q : tF C (.lc g xs vs tg cs x) σ H Q) : tLc (tI C g xs) (tG C tg) (tTs C cs) (tE C x) vs σ H Q := by
  obtain ⟨F, G0, G, pn, e, dd, e', R, he, k⟩ := q
  obtain ⟨rs, e1, ds, e2, items, ys, e7, q1, q2, q3, hs, q4, hz, q5, rfl⟩ := ev_lc he
  cases q5
  refine ⟨F, G0, G, pn, e, rs, e1, ds, e2, items, R, q1, q2, q3, fun J G1 H1 R1 s1 W1 => ?_⟩
  intro D0 hD
  have fD : F D0 = none := R1.fh.free hD
  have tD : D0 ∉ C.tt := fun z => tabG_some (R1.tb D0 z).1 hD
  have hpD : ∀ i p, (i, p) ∈ pn → p ≠ D0 := fun i p hi z => R1.pnH hi (by rw [z]; exact hD)
  have Rw := R1.wipe (soft_pin hs)
  have Rn := Rw.grow (grow_own (o := .lst []) Rw.gh Rw.tabs hD)
  have R0 := Rn.fr1 (o := .lst []) upd_same (R1.gh.free hD) fD (fun i z => (Rw.ownH z).1 hD) tD
  refine lc_turns hsl (W1.toF F) fD tD hpD (acc0 := []) (ys0 := []) (by simpa using hz) NoPin.wiped R0 .nil q4 fun G2 H2 acc s2 R2 ra _ => ?_
  rw [List.nil_append] at ra
  obtain ⟨u1, u2, u3, u4⟩ := R2.un1 (o' := .lst acc) fD tD hpD
  have hsame : upd H2 D0 (.lst acc) = H2 := by
    funext b
    by_cases z : b = D0
    · rw [z, upd_same, u1]
    · rw [upd_ne z]
  rw [hsame] at u4
  have Rb := R1.back hs u4 s2
  refine k D0 (.lst acc) G2 H2 Rb (s1.trans s2) u2 fD tD (fun i ⟨a1, b, a2, a3⟩ => ?_) u1 (.lst ra)
  have ll : e2.length = e7.length := by rw [← R1.ln, ← u4.ln, wipe_length]
  by_cases hi : i ∈ vs
  · obtain ⟨b2, h1, h2, _⟩ := soft_at hs hi
    rw [backE_in ll hi h1] at a2
    cases a2
    rw [h2] at a3
    cases a3
  · rw [backE_off hi] at a2
    exact u3 i ⟨by rw [wipe_off hi]; exact a1, b, a2, a3⟩
theorem tLc2_of {g : List D → Option (List D)} {xs : List Ex} {vs : List Nat} {tg : Tg} {cs1 : List Ex} {g2 : List D → Option (List D)} {as2 : List Ex} {vs1 : List Nat} {tg2 : Tg} {cs : List Ex} {x : Ex} (hsl : ∀ i ∈ tg.slots, i ∈ vs) (hsl2 : ∀ i ∈ tg2.slots, i ∈ vs1) {σ : St} {H : Hp} {Q : VK} (q : tF C (.lc2 g xs vs tg cs1 g2 as2 vs1 tg2 cs x) σ H Q) :
    tLc2 (tI C g xs) (tG C tg) (tTs C cs1) (tI C g2 as2) (tG C tg2) (tTs C cs) (tE C x) vs vs1 σ H Q := by
  obtain ⟨F, G0, G, pn, e, dd, e', R, he, k⟩ := q
  obtain ⟨rs, e1, ds, e2, items, ys, e7, q1, q2, q3, hs, hv, q4, hz, q5, rfl⟩ := ev_lc2 he
  cases q5
  refine ⟨F, G0, G, pn, e, rs, e1, ds, e2, items, R, q1, q2, q3, fun J G1 H1 R1 s1 W1 => ?_⟩
  intro D0 hD
  have fD : F D0 = none := R1.fh.free hD
  have tD : D0 ∉ C.tt := fun z => tabG_some (R1.tb D0 z).1 hD
  have hpD : ∀ i p, (i, p) ∈ pn → p ≠ D0 := fun i p hi z => R1.pnH hi (by rw [z]; exact hD)
  have Rw := R1.wipe (soft_pin hs)
  have Rn := Rw.grow (grow_own (o := .lst []) Rw.gh Rw.tabs hD)
  have R0 := Rn.fr1 (o := .lst []) upd_same (R1.gh.free hD) fD (fun i z => (Rw.ownH z).1 hD) tD
  refine lc2_turns hv hsl hsl2 (W1.toF F) fD tD hpD hz NoPin.wiped R0 q4 fun G2 H2 acc s2 R2 ra => ?_
  obtain ⟨u1, u2, u3, u4⟩ := R2.un1 (o' := .lst acc) fD tD hpD
  have hsame : upd H2 D0 (.lst acc) = H2 := by
    funext b
    by_cases z : b = D0
    · rw [z, upd_same, u1]
    · rw [upd_ne z]
  rw [hsame] at u4
  have Rb := R1.back hs u4 s2
  refine k D0 (.lst acc) G2 H2 Rb (s1.trans s2) u2 fD tD (fun i ⟨a1, b, a2, a3⟩ => ?_) u1 (.lst ra)
  have ll : e2.length = e7.length := by rw [← R1.ln, ← u4.ln, wipe_length]
  by_cases hi : i ∈ vs
  · obtain ⟨b2, h1, h2, _⟩ := soft_at hs hi
    rw [backE_in ll hi h1] at a2
    cases a2
    rw [h2] at a3
    cases a3
  · rw [backE_off hi] at a2
    exact u3 i ⟨by rw [wipe_off hi]; exact a1, b, a2, a3⟩
variable {elt tgx iter : Expr} {ifs : List Expr} {scope : Scope} {own : List (Str × Nat)} {pos : Pos} {g : List D → Option (List D)} {xs : List Ex} {tg : Tg} {cs : List Ex} {x : Ex}
theorem cf_lc (hc : X.calm = true) (hN : X.N.Nodup) (hi : PI X tgx iter (tI C g xs)) (ok : BlkOk X.N X.env.scope scope own)
    (hg : ∀ (s : Shared) (H : Hp) (Cc : Addr) (cl : List (Str × Addr)) (fp : List Addr), PG (X.blk s H scope (compEnvC scope cl Cc X.env) fp) tgx (tG C tg)) (ht : ∀ (s : Shared) (H : Hp) (Cc : Addr) (cl : List (Str × Addr)) (fp : List Addr), PTs (X.blk s H scope (compEnvC scope cl Cc X.env) fp) ifs (tTs C cs))
    (he : ∀ (s : Shared) (H : Hp) (Cc : Addr) (cl : List (Str × Addr)) (fp : List Addr), PE (X.blk s H scope (compEnvC scope cl Cc X.env) fp) elt (tE C x)) (hsl : (tg.slots.all fun i => (own.map (·.2)).contains i) = true) (hs : ∀ x, foldedSetIterable iter X.env x = pure x := by intro _; rfl) :
    PE X (.ListComp elt [⟨tgx, iter, ifs, 0⟩] scope pos) (tF C (.lc g xs (own.map (·.2)) tg cs x)) := (pe_lc hc hN hi ok hg ht he hs).imp fun σ H Q q => tLc_of (fun i hi => by
  have := List.all_eq_true.mp hsl i hi
  exact List.contains_iff_mem.mp this) q
theorem cf_lc2 {tgx2 iter2 : Expr} {ifs2 : List Expr} {g2 : List D → Option (List D)} {as2 : List Ex} {vs1 : List Nat} {tg2 : Tg} {cs2 : List Ex} (hc : X.calm = true) (hN : X.N.Nodup) (hi : PI X tgx iter (tI C g xs)) (ok : BlkOk X.N X.env.scope scope own) (hv : (vs1.all fun i => (own.map (·.2)).contains i) = true)
    (hg : ∀ (s : Shared) (H : Hp) (Cc : Addr) (cl : List (Str × Addr)) (fp : List Addr), PG (X.blk s H scope (compEnvC scope cl Cc X.env) fp) tgx (tG C tg)) (ht : ∀ (s : Shared) (H : Hp) (Cc : Addr) (cl : List (Str × Addr)) (fp : List Addr), PTs (X.blk s H scope (compEnvC scope cl Cc X.env) fp) ifs (tTs C cs))
    (hi1 : ∀ (s : Shared) (H : Hp) (Cc : Addr) (cl : List (Str × Addr)) (fp : List Addr), PI (X.blk s H scope (compEnvC scope cl Cc X.env) fp) tgx2 iter2 (tI C g2 as2))
    (hg1 : ∀ (s : Shared) (H : Hp) (Cc : Addr) (cl : List (Str × Addr)) (fp : List Addr), PG (X.blk s H scope (compEnvC scope cl Cc X.env) fp) tgx2 (tG C tg2)) (ht1 : ∀ (s : Shared) (H : Hp) (Cc : Addr) (cl : List (Str × Addr)) (fp : List Addr), PTs (X.blk s H scope (compEnvC scope cl Cc X.env) fp) ifs2 (tTs C cs2))
    (he : ∀ (s : Shared) (H : Hp) (Cc : Addr) (cl : List (Str × Addr)) (fp : List Addr), PE (X.blk s H scope (compEnvC scope cl Cc X.env) fp) elt (tE C x)) (hsl : (tg.slots.all fun i => (own.map (·.2)).contains i) = true) (hsl2 : (tg2.slots.all fun i => vs1.contains i) = true)
    (hs : ∀ x, foldedSetIterable iter X.env x = pure x := by intro _; rfl) (hs1 : ∀ env x, foldedSetIterable iter2 env x = pure x := by intro _ _; rfl) :
    PE X (.ListComp elt [⟨tgx, iter, ifs, 0⟩, ⟨tgx2, iter2, ifs2, 0⟩] scope pos) (tF C (.lc2 g xs (own.map (·.2)) tg cs g2 as2 vs1 tg2 cs2 x)) := (pe_lc2 hc hN hi ok (fun i hi => List.contains_iff_mem.mp (List.all_eq_true.mp hv i hi)) hg ht hi1 hg1 ht1 he hs hs1).imp fun σ H Q q =>
      tLc2_of (fun i hi => List.contains_iff_mem.mp (List.all_eq_true.mp hsl i hi)) (fun i hi => List.contains_iff_mem.mp (List.all_eq_true.mp hsl2 i hi)) q
theorem cf_ce {a : Expr} (h : PE X a (tF C x)) (hx : ∀ e r e', ev x e = some (r, e') → ∃ d, r = .pers d) : PE X a (tE C x) := h.imp fun σ H Q q => tF_tE q hx
theorem lc_pers : ∀ e r e', ev (.lc g xs vs tg cs x) e = some (r, e') → ∃ d, r = .pers d := fun e r e' h => by
  obtain ⟨_, _, _, _, _, ys, _, _, _, _, _, _, _, h2, _⟩ := ev_lc h
  exact ⟨_, h2⟩
theorem lc2_pers {g2 : List D → Option (List D)} {as2 : List Ex} {vs1 : List Nat} {tg2 : Tg} {cs2 : List Ex} : ∀ e r e', ev (.lc2 g xs vs tg cs g2 as2 vs1 tg2 cs2 x) e = some (r, e') → ∃ d, r = .pers d := fun e r e' h => by
  obtain ⟨_, _, _, _, _, ys, _, _, _, _, _, _, _, _, h2, _⟩ := ev_lc2 h
  exact ⟨_, h2⟩
theorem op_pers {f : List D → Option D} : ∀ e r e', ev (.op f xs) e = some (r, e') → ∃ d, r = .pers d := fun e r e' h => by
  obtain ⟨_, _, d, _, _, _, h2⟩ := ev_op h
  exact ⟨d, h2⟩
theorem mk_pers {f : List D → Option D} : ∀ e r e', ev (.mk f xs) e = some (r, e') → ∃ d, r = .pers d := fun e r e' h => by
  obtain ⟨_, _, _, d, _, _, _, h2⟩ := ev_mk h
  exact ⟨d, h2⟩
end
end Mi
namespace Mi
open PySem PySem.Spec PyProof.Rows L2 GxR
def OutOk (C : Cfg) (F G0 G : Hp) (pn : Pn) (D : Ends) : Out → Prop
  | .nx e' => ∀ σ' G' H', Rel C F G0 G' H' pn σ' e' → Same G G' → D.nx σ' H'
  | .rt d e' => ∀ v σ' G' H', Rel C F G0 G' H' pn σ' e' → Same G G' → Rep C.K G' v d → D.rt v H'
  | .ro d e' => ∀ p o σ' G' H', Rel C F G0 G' H' pn σ' e' → Same G G' → G' p = none → F p = none → p ∉ C.tt → H' p = some o → RepO C.K G' o d → D.rt (.ref p) H'
  | .bk e' => ∀ σ' G' H', Rel C F G0 G' H' pn σ' e' → Same G G' → D.bk σ' H'
  | .ct e' => ∀ σ' G' H', Rel C F G0 G' H' pn σ' e' → Same G G' → D.ct σ' H'
def tS (C : Cfg) (s : S) : TS := fun D σ H => ∃ (F G0 G : Hp) (pn : Pn) (e : Env') (o : Out), Rel C F G0 G H pn σ e ∧ ex s e = some o ∧ OutOk C F G0 G pn D o
section
variable {X : Cx} {C : Cfg} {F G0 G G' H H' : Hp} {pn : Pn} {σ : St} {e e' : Env'} {v : V} {d : D} {st : Stmt} {rest : List Stmt} {a b c : Expr} {x y z : Ex} {s t : S} {pos : Pos}
theorem OutOk.mono {D : Ends} {o : Out} (s : Same G G') (h : OutOk C F G0 G pn D o) : OutOk C F G0 G' pn D o := by
  cases o with
  | nx e' => exact fun σ' G2 H' R q => h σ' G2 H' R (s.trans q)
  | rt d e' => exact fun v σ' G2 H' R q => h v σ' G2 H' R (s.trans q)
  | ro d e' => exact fun p o σ' G2 H' R q => h p o σ' G2 H' R (s.trans q)
  | bk e' => exact fun σ' G2 H' R q => h σ' G2 H' R (s.trans q)
  | ct e' => exact fun σ' G2 H' R q => h σ' G2 H' R (s.trans q)
theorem css_nil : PSs X [] (tS C .skip) := pss_nil.imp fun D σ H q => by
  obtain ⟨F, G0, G, pn, e, o, R, he, k⟩ := q
  cases he
  exact k σ G H R (Same.refl G)
theorem css_cons (h1 : PS X st (tS C s)) (h2 : PSs X rest (tS C t)) : PSs X (st :: rest) (tS C (.seq s t)) := (pss_cons h1 h2).imp fun D σ H q => by
  obtain ⟨F, G0, G, pn, e, o, R, he, k⟩ := q
  unfold ex at he
  split at he
  · rename_i e1 q1
    exact ⟨F, G0, G, pn, e, .nx e1, R, q1, fun σ1 G1 H1 R1 s1 => ⟨F, G0, G1, pn, e1, o, R1, he, k.mono s1⟩⟩
  · rename_i o1 hno q1
    cases he
    refine ⟨F, G0, G, pn, e, o, R, q1, ?_⟩
    cases o with
    | nx e1 => exact absurd rfl (hno e1)
    | rt d e1 => exact k
    | ro d e1 => exact k
    | bk e1 => exact k
    | ct e1 => exact k
  · cases he
theorem css_one (h1 : PS X st (tS C s)) : PSs X [st] (tS C s) := pss_one h1
theorem cs_never : PS X st (tS C .never) := (ps_never (X := X) (st := st)).imp fun D σ H q => by
  obtain ⟨F, G0, G, pn, e, o, R, he, k⟩ := q
  cases he
theorem cs_exp (ha : PE X a (tE C x)) (hs : swapsWith a none pos.line X.env = pure false := by rfl) : PS X (.Expr a pos) (tS C (.exp x)) := (ps_expr ha hs).imp fun D σ H q => by
  obtain ⟨F, G0, G, pn, e, o, R, he, k⟩ := q
  unfold ex at he
  split at he
  · rename_i r e1 q1
    cases he
    exact ⟨F, G0, G, pn, e, r, e1, R, q1, fun v G1 H1 R1 s1 _ => k σ G1 H1 R1 s1⟩
  · cases he
theorem cs_ret (ha : PE X a (tE C x)) : PS X (.Return (some a) pos) (tS C (.ret x)) := (ps_ret ha).imp fun D σ H q => by
  obtain ⟨F, G0, G, pn, e, o, R, he, k⟩ := q
  unfold ex at he
  split at he
  · rename_i r e1 q1
    split at he
    · rename_i d e2 q2
      cases he
      refine ⟨F, G0, G, pn, e, r, e1, R, q1, fun v G1 H1 R1 s1 rv => ?_⟩
      obtain ⟨G2, s2, R2, r2, _⟩ := R1.settle rv q2
      exact k v σ G2 H1 R2 (s1.trans s2) r2
    · cases he
  · cases he
theorem cs_if {l m : List Stmt} (hc : PT X c (tT C z)) (ha : PSs X l (tS C s)) (hb : PSs X m (tS C t)) : PS X (.If c l m pos) (tS C (.iff z s t)) := (ps_if hc ha hb).imp fun D σ H q => by
  obtain ⟨F, G0, G, pn, e, o, R, he, k⟩ := q
  unfold ex at he
  split at he
  · rename_i r e1 q1
    split at he
    · rename_i d q2
      split at he
      · rename_i q3
        exact ⟨F, G0, G, pn, e, r, e1, d, true, R, q1, q2, q3, fun G1 H1 R1 s1 => iteT ⟨F, G0, G1, pn, e1, o, R1, he, k.mono s1⟩⟩
      · rename_i q3
        exact ⟨F, G0, G, pn, e, r, e1, d, false, R, q1, q2, q3, fun G1 H1 R1 s1 => iteF ⟨F, G0, G1, pn, e1, o, R1, he, k.mono s1⟩⟩
      · cases he
    · cases he
  · cases he
theorem set_of {te : TE} {g : TG} {tg : Tg} (hte : ∀ σ H Q, tE C x σ H Q → te σ H Q) (hg : ∀ v σ H Q, tG C tg v σ H Q → g v σ H Q) {D : Ends} {σ : St} {H : Hp} (q : tS C (.set tg x) D σ H) : tAsg te g D σ H := by
  obtain ⟨F, G0, G, pn, e, o, R, he, k⟩ := q
  unfold ex at he
  split at he
  · rename_i r e1 q1
    split at he
    · rename_i d e2 q2
      split at he
      · rename_i e3 q3
        cases he
        refine hte _ _ _ ⟨F, G0, G, pn, e, r, e1, R, q1, fun v G1 H1 R1 s1 rv => hg _ _ _ _ ?_⟩
        obtain ⟨G2, s2, R2, r2, _⟩ := R1.settle rv q2
        exact ⟨F, G0, G2, pn, e2, d, e3, R2, r2, q3, fun σ3 R3 _ => k σ3 G2 H1 R3 (s1.trans s2)⟩
      · cases he
    · cases he
  · cases he
theorem cs_asg {tgx : Expr} {tg : Tg} (ha : PE X a (tE C x)) (hg : PG X tgx (tG C tg)) (hs : swapsWithSole [tgx] a pos.line X.env = pure false := by rfl) (hw : swappedStores [tgx] a X.env = pure none := by rfl)
    (h1 : (assignEach [tgx] X.env).map (·.2) = [assign tgx X.env] := by rfl) : PS X (.Assign [tgx] a pos) (tS C (.set tg x)) := (ps_asg ha hg hs hw h1).imp fun D σ H q => set_of (fun _ _ _ h => h) (fun _ _ _ _ h => h) q
theorem gName_of {i : Nat} (v : V) (σ : St) (H : Hp) (Q : St → Hp → Prop) (q : tG C (.nm i) v σ H Q) : gName i v σ H Q := by
  obtain ⟨F, G0, G, pn, e, d, e', R, r, hb, k⟩ := q
  obtain ⟨b0, h0, hn, rfl⟩ := bind_nm hb
  exact k _ (R.put h0 hn r) ⟨List.length_set, fun j hj => List.getElem?_set_ne (fun z => hj (by subst z; exact List.mem_cons_self))⟩
theorem cs_name {i : Nat} {nm : Str} {pos' : Pos} (h : ∀ {te : TE}, PE X a te → PS X (.Assign [.Name nm pos'] a pos) (tAsg te (gName i))) (ha : PE X a (tE C x)) : PS X (.Assign [.Name nm pos'] a pos) (tS C (.set (.nm i) x)) :=
  (h ha).imp fun D σ H q => set_of (fun _ _ _ h => h) gName_of q
theorem Rel.putO (R : Rel C F G0 G H pn σ e) {i : Nat} {b0 : B} {p : Addr} {o : HO} (h0 : e[i]? = some b0) (hn : b0.pin = false) (gp : G p = none) (fp : F p = none) (tp : p ∉ C.tt) (ho : ∀ j, ¬ Own σ e j p) (hp : H p = some o) (r : RepO C.K G o d) :
    Rel C F G0 G H pn (σ.set i (some (.ref p))) (e.set i (.ow d)) := by
  have hi : i < e.length := (List.getElem?_eq_some_iff.mp h0).1
  have his : i < σ.length := by rw [R.ln]; exact hi
  have pk : PinK σ e (σ.set i (some (.ref p))) (e.set i (.ow d)) := PinK.set2 h0 hn
  have back : ∀ {j : Nat} {p' : Addr}, Own (σ.set i (some (.ref p))) (e.set i (.ow d)) j p' → (j = i ∧ p' = p) ∨ (j ≠ i ∧ Own σ e j p') := fun {j p'} ⟨a1, b, a2, a3⟩ => by
    by_cases hj : i = j
    · subst hj
      rw [List.getElem?_set_self his] at a1
      cases a1
      exact .inl ⟨rfl, rfl⟩
    · rw [List.getElem?_set_ne hj] at a1 a2
      exact .inr ⟨fun z => hj z.symm, a1, b, a2, a3⟩
  refine ⟨R.fh, R.gh, R.gf, R.tb, fun j b hb => ?_, fun j k p' h1 h2 => ?_, fun j nm fs hb => ?_, fun j x hx => R.fp j x (set_fr hx (fun _ z => nomatch z)), fun j p' hj => ?_, by rw [List.length_set, List.length_set]; exact R.ln⟩
  · by_cases hj : i = j
    · subst hj
      rw [List.getElem?_set_self hi] at hb
      cases hb
      exact ⟨p, o, List.getElem?_set_self his, gp, fp, tp, hp, r⟩
    · rw [List.getElem?_set_ne hj] at hb
      rw [List.getElem?_set_ne hj]
      exact R.sl j b hb
  · rcases back h1 with ⟨rfl, rfl⟩ | ⟨hj, o1⟩
    · rcases back h2 with ⟨rfl, _⟩ | ⟨hk, o2⟩
      · rfl
      · exact absurd o2 (ho k)
    · rcases back h2 with ⟨rfl, rfl⟩ | ⟨hk, o2⟩
      · exact absurd o1 (ho j)
      · exact R.ap j k p' o1 o2
  · have hne : i ≠ j := fun z => by
      subst z
      rw [List.getElem?_set_self hi] at hb
      cases hb
    rw [List.getElem?_set_ne hne] at hb
    obtain ⟨q, k1, k2⟩ := R.ob j nm fs hb
    exact ⟨q, by rw [List.getElem?_set_ne hne]; exact k1, k2.keep k2.1 k2.2.1 rfl (Same.refl G) pk⟩
  · obtain ⟨k1, b, k2, k3⟩ := R.pi j p' hj
    obtain ⟨k4, b2, k5, k6⟩ := pk j b p' k2 k3 k1
    exact ⟨k4, b2, k5, k6⟩
theorem setO_of {te : TE} {i : Nat} (hte : ∀ σ H Q, tF C x σ H Q → te σ H Q) {D : Ends} {σ : St} {H : Hp} (q : tS C (.setO i x) D σ H) : tAsg te (gName i) D σ H := by
  obtain ⟨F, G0, G, pn, e, o, R, he, k⟩ := q
  unfold ex at he
  split at he
  · rename_i d e1 q1
    have fin : ∀ {b0 : B}, e1[i]? = some b0 → b0.pin = false → o = .nx (e1.set i (.ow d)) → tAsg te (gName i) D σ H := fun {b0} h0 hn ho => by
      subst ho
      exact hte _ _ _ ⟨F, G0, G, pn, e, d, e1, R, q1, fun p o G1 H1 R1 s1 g1 f1 t1 o1 h1 r1 => k _ G1 H1 (R1.putO h0 hn g1 f1 t1 o1 h1 r1) s1⟩
    split at he
    · cases he
    · cases he
    · cases he
    · rename_i b0 n1 n2 n3 h0
      cases he
      exact fin h0 (by
        cases b0 with
        | un => rfl
        | im d => rfl
        | ow d => rfl
        | io d => exact absurd rfl (n1 d)
        | ob nm fs => exact absurd rfl (n2 nm fs)
        | fr d => exact absurd rfl (n3 d)) rfl
    · cases he
  · cases he
theorem cs_nameO {i : Nat} {nm : Str} {pos' : Pos} (h : ∀ {te : TE}, PE X a te → PS X (.Assign [.Name nm pos'] a pos) (tAsg te (gName i))) (ha : PE X a (tF C x)) : PS X (.Assign [.Name nm pos'] a pos) (tS C (.setO i x)) :=
  (h ha).imp fun D σ H q => setO_of (fun _ _ _ h => h) q
theorem cs_par {i j : Nat} {nx ny : Str} {px py pt : Pos} {kt k2 : Nat} {pt2 : Pos} (hc : X.calm = true) (hN : X.N.Nodup) (hi : X.N[i]? = some nx) (hj : X.N[j]? = some ny) (hij : i ≠ j)
    (hx : X.env.scope.names.lookup nx = some .local) (hy : X.env.scope.names.lookup ny = some .local) (ha : PA X [a, b] (tA C [x, y]))
    (hw : swappedStores [.Tuple [.Name nx px, .Name ny py] kt pt] (.Tuple [a, b] k2 pt2) X.env = pure (some [nx, ny]))
    (hs : swapsWithSole [.Tuple [.Name nx px, .Name ny py] kt pt] (.Tuple [a, b] k2 pt2) pos.line X.env = pure false := by rfl) :
    PS X (.Assign [.Tuple [.Name nx px, .Name ny py] kt pt] (.Tuple [a, b] k2 pt2) pos) (tS C (.par i j x y)) := (ps_par hc hN hi hj hij hx hy ha hw hs).imp fun D σ H q => by
  obtain ⟨F, G0, G, pn, e, o, R, he, k⟩ := q
  unfold ex at he
  split at he
  · rename_i rs e1 q1
    split at he
    · rename_i d1 d2 e2 q2
      split at he
      · rename_i e3 q3
        cases he
        refine ⟨F, G0, G, pn, e, rs, e1, R, q1, fun vs G1 H1 R1 s1 r1 => ?_⟩
        obtain ⟨G2, s2, R2, r2, _⟩ := Rel.settles R1 r1 q2
        cases r2 with
        | cons ra rb =>
          cases rb with
          | cons rb rc =>
            cases rc
            refine ⟨_, _, rfl, ?_⟩
            unfold Tg.binds at q3
            split at q3
            · rename_i e4 q4
              unfold Tg.binds at q3
              split at q3
              · rename_i e5 q5
                unfold Tg.binds at q3
                cases q3
                obtain ⟨b0, h0, hn, rfl⟩ := bind_nm q4
                obtain ⟨b1, h1, hn1, rfl⟩ := bind_nm q5
                exact k _ G2 H1 ((R2.put h0 hn ra).put h1 hn1 rb) (s1.trans s2)
              · cases q3
            · cases q3
      · cases he
    · cases he
  · cases he
theorem lim16s {n : Nat} (h : n < 16000000) : n < sizeLine := by rw [sizeLine_eq]; omega
theorem growO_upd {p : Addr} {o : HO} (gh : Same G H) (t : ∀ P ∈ C.tt, TabC C H P) (gp : G p = none) (tp : p ∉ C.tt) (hx : ∀ c q, H p ≠ some (LamX.CodeO c q)) : GrowO C p G H G (upd H p o) :=
  ⟨Same.refl G, fun b u h => by rw [upd_ne (ne_of_none h gp)]; exact gh b u h, fun q hq _ _ => upd_ne hq, fun _ _ _ => rfl, fun P hP => by
    refine (t P hP).keep (upd_ne fun z => tp (by rw [← z]; exact hP)) fun c φ e => ?_
    rw [upd_ne (fun z => hx c φ (by rw [← z]; exact e))]; exact e⟩
theorem app_of {i : Nat} (hK : C.K.f = X.K) {D : Ends} {σ : St} {H : Hp} (q : tS C (.app i x) D σ H) : tDrop (tBM X.K "list" rAppend (tVar i) (tCons (tE C x) tNil)) D σ H := by
  obtain ⟨F, G0, G, pn, e, o, R, he, k⟩ := q
  unfold ex at he
  split at he
  · rename_i h0
    split at he
    · rename_i r e1 q1
      split at he
      · rename_i d e2 q2
        obtain ⟨p, xs, hv, hx⟩ : ∃ p xs, σ[i]? = some (some (.ref p)) ∧ H p = some (.lst xs) := by
          unfold lstAt at h0
          split at h0
          · rename_i l hb
            obtain ⟨p, o, z, z1, _, z3, z4, z5⟩ := R.sl i _ hb
            cases z5 with
            | lst r => exact ⟨p, _, z, z4⟩
          · rename_i l hb
            obtain ⟨p, o, z, z1, _, z3, z4, z5⟩ := R.sl i _ hb
            cases z5 with
            | lst r => exact ⟨p, _, z, z4⟩
          · cases h0
        have fin : ∀ {b b' : B} {l : List Mi.D}, e2[i]? = some b → l.length < 16000000 → ((b = .ow (.lst l) ∧ b' = .ow (.lst (l ++ [d]))) ∨ (b = .io (.lst l) ∧ b' = .io (.lst (l ++ [d])))) → o = .nx (e2.set i b') → tDrop (tBM X.K "list" rAppend (tVar i) (tCons (tE C x) tNil)) D σ H := fun {b b' l} hb hl hc ho => by
          subst ho
          refine ⟨.ref p, hv, .inl ⟨rfl, xs, SqL.of hx⟩, F, G0, G, pn, e, r, e1, R, q1, fun v G1 H1 R1 s1 rv => ?_⟩
          obtain ⟨G2, s2, R2, r2, _⟩ := R1.settle rv q2
          obtain ⟨ys, gp, tp, hy, ry⟩ : ∃ ys, G2 p = none ∧ p ∉ C.tt ∧ H1 p = some (.lst ys) ∧ RepL C.K G2 ys l := by
            have q := R2.sl i b hb
            rw [hv] at q
            rcases hc with ⟨rfl, _⟩ | ⟨rfl, _⟩
            · obtain ⟨p, o, z, z1, _, z3, z4, z5⟩ := q
              cases z
              cases z5 with
              | lst r => exact ⟨_, z1, z3, z4, r⟩
            · obtain ⟨p, o, z, z1, _, z3, z4, z5⟩ := q
              cases z
              cases z5 with
              | lst r => exact ⟨_, z1, z3, z4, r⟩
          refine ⟨p, ys, v, rfl, rfl, hy, by rw [ry.length]; exact lim16s hl, ?_⟩
          refine k σ G2 _ (R2.own (b := b) (b' := b') hv hb (by
            rcases hc with ⟨rfl, rfl⟩ | ⟨rfl, rfl⟩
            · exact ⟨_, _, .inl ⟨rfl, rfl⟩⟩
            · exact ⟨_, _, .inr ⟨rfl, rfl⟩⟩) (growO_upd R2.gh R2.tabs gp tp fun c φ z => by rw [hy] at z; unfold LamX.CodeO at z; cases z) upd_same (fun d' hd => by
            rcases hc with ⟨rfl, rfl⟩ | ⟨rfl, rfl⟩
            · cases hd; exact .lst (ry.append (.cons r2 .nil))
            · cases hd; exact .lst (ry.append (.cons r2 .nil)))) (s1.trans s2)
        split at he
        · rename_i l hb
          split at he
          · rename_i hl
            cases he
            exact fin hb hl (.inl ⟨rfl, rfl⟩) rfl
          · cases he
        · rename_i l hb
          split at he
          · rename_i hl
            cases he
            exact fin hb hl (.inr ⟨rfl, rfl⟩) rfl
          · cases he
        · cases he
      · cases he
    · cases he
  · cases he
theorem cs_app {i : Nat} (h : ∀ {te : TE}, PE X a te → PS X st (tDrop (tBM X.K "list" rAppend (tVar i) (tCons te tNil)))) (hK : C.K.f = X.K) (ha : PE X a (tE C x)) : PS X st (tS C (.app i x)) := (h ha).imp fun D σ H q => app_of hK q
def OkS (C : Cfg) (r : V → V → V → Hp → (Hp → Prop) → Prop) (f : D → D → D → Option D) : Prop := ∀ (p : Addr) (y v : V) (o : HO) (d0 kd d d1 : D) (G H : Hp) (Q : Hp → Prop), Same G H → H p = some o → RepO C.K G o d0 → Rep C.K G y kd → Rep C.K G v d → f d0 kd d = some d1 →
  (∀ o', RepO C.K G o' d1 → Q (upd H p o')) → r (.ref p) y v H Q
theorem subG_of {i : Nat} {f : D → D → D → Option D} {r : V → V → V → Hp → (Hp → Prop) → Prop} (ok : OkS C r f) {tr : TE} {Pe : Env' → Prop} (hP : ∀ {e e' : Env'}, KL e e' → Pe e → Pe e') (hr : ∀ {F G0 G H : Hp} {pn : Pn} {σ : St} {e : Env'} {Q : VK}, Rel C F G0 G H pn σ e → Pe e → tVar i σ H Q → tr σ H Q) {D : Ends} {σ : St} {H : Hp}
    {F G0 G : Hp} {pn : Pn} {e : Env'} {o : Out} (R : Rel C F G0 G H pn σ e) (he : ex (.sub f i y x) e = some o) (k : OutOk C F G0 G pn D o) (hPe : Pe e) :
    tE C x σ H fun v H1 => tr σ H1 fun u H2 => tE C y σ H2 fun w H3 => r u w v H3 fun H4 => D.nx σ H4 := by
  unfold ex at he
  split at he
  · rename_i h0
    split at he
    · rename_i rs e1 q1
      split at he
      · rename_i d kd e2 q2
        obtain ⟨p, hv⟩ : ∃ p, σ[i]? = some (some (.ref p)) := by
          unfold ownAt at h0
          split at h0
          · rename_i b hb
            have sl := R.sl i b hb
            cases b with
            | un => cases h0
            | im d => cases h0
            | ow d => obtain ⟨p, o, z, _⟩ := sl; exact ⟨p, z⟩
            | io d => obtain ⟨p, o, z, _⟩ := sl; exact ⟨p, z⟩
            | ob nm fs => cases h0
            | fr d => cases h0
          · cases h0
        have fin : ∀ {b b' : B} {d0 d1 : Mi.D}, e2[i]? = some b → f d0 kd d = some d1 → ((b = .ow d0 ∧ b' = .ow d1) ∨ (b = .io d0 ∧ b' = .io d1)) → o = .nx (e2.set i b') →
            tE C x σ H fun v H1 => tr σ H1 fun u H2 => tE C y σ H2 fun w H3 => r u w v H3 fun H4 => D.nx σ H4 := fun {b b' d0 d1} hb hf hc ho => by
          subst ho
          unfold evs at q1
          split at q1
          · rename_i r1 e3 q3
            split at q1
            · rename_i rs2 e4 q4
              cases q1
              unfold evs at q4
              split at q4
              · rename_i r2 e5 q5
                unfold evs at q4
                cases q4
                refine ⟨F, G0, G, pn, e, r1, e3, R, q3, fun v G1 H1 R1 s1 rv => hr R1 (hP (ev_kept _ _ _ _ q3) hPe) ⟨.ref p, hv, F, G0, G1, pn, e3, r2, _, R1, q5, fun w G2 H2 R2 s2 rw' => ?_⟩⟩
                obtain ⟨G3, s3, R3, r3, _⟩ := Rel.settles R2 (.cons ((rv.mono s2).env (ev_kept y _ _ _ q5).1) (.cons rw' .nil)) q2
                cases r3 with
                | cons ra rb =>
                  cases rb with
                  | cons rb rc =>
                    obtain ⟨o0, gp, tp, h1, r0⟩ : ∃ o0, G3 p = none ∧ p ∉ C.tt ∧ H2 p = some o0 ∧ RepO C.K G3 o0 d0 := by
                      have sl := R3.sl i b hb
                      rw [hv] at sl
                      rcases hc with ⟨rfl, _⟩ | ⟨rfl, _⟩
                      · obtain ⟨p', o, z, z1, _, z2⟩ := sl
                        cases z
                        exact ⟨o, z1, z2⟩
                      · obtain ⟨p', o, z, z1, _, z2⟩ := sl
                        cases z
                        exact ⟨o, z1, z2⟩
                    refine ok p w v o0 d0 kd d d1 G3 H2 _ R3.gh h1 r0 rb ra hf fun o' r' => ?_
                    refine k σ G3 _ (R3.own (b := b) (b' := b') hv hb (by
                      rcases hc with ⟨rfl, rfl⟩ | ⟨rfl, rfl⟩
                      · exact ⟨_, _, .inl ⟨rfl, rfl⟩⟩
                      · exact ⟨_, _, .inr ⟨rfl, rfl⟩⟩) (growO_upd R3.gh R3.tabs gp tp (repO_nx h1 r0)) upd_same (fun d' hd => by
                      rcases hc with ⟨rfl, rfl⟩ | ⟨rfl, rfl⟩
                      · cases hd; exact r'
                      · cases hd; exact r')) ((s1.trans s2).trans s3)
              · cases q4
            · cases q1
          · cases q1
        split at he
        · rename_i o0 hb
          split at he
          · rename_i o1 hf
            cases he
            exact fin hb hf (.inl ⟨rfl, rfl⟩) rfl
          · cases he
        · rename_i o0 hb
          split at he
          · rename_i o1 hf
            cases he
            exact fin hb hf (.inr ⟨rfl, rfl⟩) rfl
          · cases he
        · cases he
      · cases he
    · cases he
  · cases he
theorem sub_of {i : Nat} {f : D → D → D → Option D} {r : V → V → V → Hp → (Hp → Prop) → Prop} (ok : OkS C r f) {D : Ends} {σ : St} {H : Hp} (q : tS C (.sub f i y x) D σ H) :
    tE C x σ H fun v H1 => tVar i σ H1 fun u H2 => tE C y σ H2 fun w H3 => r u w v H3 fun H4 => D.nx σ H4 := by
  obtain ⟨F, G0, G, pn, e, o, R, he, k⟩ := q
  exact subG_of ok (Pe := fun _ => True) (fun _ _ => trivial) (fun _ _ h => h) R he k trivial
def setL : D → D → D → Option D := fun o k d => match o, k with
  | .lst l, .int i => (match ixN l.length i with
    | some j => some (.lst (l.set j d))
    | none => none)
  | _, _ => none
theorem setL_ok : OkS C rSetL setL := fun p y v o d0 kd d d1 G H Q s h r0 rk rd hf hQ => by
  unfold setL at hf
  split at hf
  · rename_i l i
    split at hf
    · rename_i j hj
      cases hf
      cases r0 with
      | lst r =>
        cases rk
        exact ⟨p, _, i, j, rfl, rfl, h, by rw [r.length]; exact hj, hQ _ (.lst (r.set rd j))⟩
    · cases hf
  · cases hf
theorem for_of {g : List D → Option (List D)} {xs : List Ex} {tg : Tg} {tb : TS} (hb : ∀ D σ H, tS C s D σ H → tb D σ H) {D : Ends} {σ : St} {H : Hp} (q : tS C (.forr g xs tg s) D σ H) : tFor (tI C g xs) (tG C tg) tb D σ H := by
  obtain ⟨F, G0, G, pn, e, o, R, he, k⟩ := q
  unfold ex at he
  split at he
  · rename_i rs e1 q1
    split at he
    · rename_i ds e2 q2
      split at he
      · rename_i items q3
        refine ⟨F, G0, G, pn, e, rs, e1, ds, e2, items, R, q1, q2, q3, fun J G1 H1 R1 s1 W1 => ?_⟩
        let fb : Mi.D → Env' → Option Out := fun d e => match tg.bind d e with
          | some e3 => ex s e3
          | none => none
        have he' : forLoop fb items e2 = some o := he
        refine ⟨fun i m σ H => m = items.length - i ∧ i ≤ items.length ∧ ∃ (G2 : Hp) (e3 : Env'), Same G1 G2 ∧ Rel C F G0 G2 H pn σ e3 ∧ forLoop fb (items.drop i) e3 = some o, ⟨_, rfl, Nat.zero_le _, G1, e2, Same.refl G1, R1, he'⟩, ?_⟩
        rintro i m σ2 H2 ⟨rfl, hi, G2, e3, s2, R2, hl⟩
        by_cases hlt : i < items.length
        · refine .inr ⟨W1.go i G2 H2 hlt s2 R2.gh, _, fun σ' H' h => ⟨items.length - (i + 1), by omega, h⟩, fun x0 H3 yl => ?_⟩
          have hget : items[i]? = some items[i] := List.getElem?_eq_getElem hlt
          obtain ⟨G3, gr, rx⟩ := W1.yld i _ G2 H2 H3 x0 hget s2 R2.gh R2.tabs yl
          have R3 := R2.grow gr
          rw [List.drop_eq_getElem_cons hlt] at hl
          unfold forLoop at hl
          have s23 := s2.trans gr.gg
          have again : ∀ {e5 : Env'}, forLoop fb (items.drop (i + 1)) e5 = some o → ∀ σ' G' H', Rel C F G0 G' H' pn σ' e5 → Same G3 G' → items.length - (i + 1) = items.length - (i + 1) ∧ i + 1 ≤ items.length ∧ ∃ (G2 : Hp) (e3 : Env'), Same G1 G2 ∧ Rel C F G0 G2 H' pn σ' e3 ∧ forLoop fb (items.drop (i + 1)) e3 = some o :=
            fun {e5} hl5 σ' G' H' R' s' => ⟨rfl, by omega, G', e5, s23.trans s', R', hl5⟩
          have go : ∀ {o4 : Out}, fb items[i] e3 = some o4 → OutOk C F G0 G3 pn { D with nx := fun σ H => items.length - (i + 1) = items.length - (i + 1) ∧ i + 1 ≤ items.length ∧ ∃ (G2 : Hp) (e3 : Env'), Same G1 G2 ∧ Rel C F G0 G2 H pn σ e3 ∧ forLoop fb (items.drop (i + 1)) e3 = some o, ct := fun σ H => items.length - (i + 1) = items.length - (i + 1) ∧ i + 1 ≤ items.length ∧ ∃ (G2 : Hp) (e3 : Env'), Same G1 G2 ∧ Rel C F G0 G2 H pn σ e3 ∧ forLoop fb (items.drop (i + 1)) e3 = some o, bk := D.nx } o4 →
              tG C tg x0 σ2 H3 fun σ2 H2 => tb { D with nx := fun σ H => items.length - (i + 1) = items.length - (i + 1) ∧ i + 1 ≤ items.length ∧ ∃ (G2 : Hp) (e3 : Env'), Same G1 G2 ∧ Rel C F G0 G2 H pn σ e3 ∧ forLoop fb (items.drop (i + 1)) e3 = some o, ct := fun σ H => items.length - (i + 1) = items.length - (i + 1) ∧ i + 1 ≤ items.length ∧ ∃ (G2 : Hp) (e3 : Env'), Same G1 G2 ∧ Rel C F G0 G2 H pn σ e3 ∧ forLoop fb (items.drop (i + 1)) e3 = some o, bk := D.nx } σ2 H2 := fun {o4} h4 k4 => by
            have h4' : (match tg.bind items[i] e3 with
              | some e3 => ex s e3
              | none => none) = some o4 := h4
            split at h4'
            · rename_i e5 b5
              exact ⟨F, G0, G3, pn, e3, _, e5, R3, rx, b5, fun σ5 R5 _ => hb _ _ _ ⟨F, G0, G3, pn, e5, o4, R5, h4', k4⟩⟩
            · cases h4'
          split at hl
          · rename_i e4 h4
            exact go h4 (again hl)
          · rename_i e4 h4
            exact go h4 (again hl)
          · rename_i e4 h4
            cases hl
            exact go h4 fun σ' G' H' R' s' => k σ' G' H' R' ((s1.trans s23).trans s')
          · rename_i v4 e4 h4
            cases hl
            exact go h4 fun v σ' G' H' R' s' rv => k v σ' G' H' R' ((s1.trans s23).trans s') rv
          · rename_i v4 e4 h4
            cases hl
            exact go h4 fun p o σ' G' H' R' s' => k p o σ' G' H' R' ((s1.trans s23).trans s')
          · cases hl
        · have hid : items.drop i = [] := List.drop_eq_nil_of_le (by omega)
          rw [hid] at hl
          unfold forLoop at hl
          cases hl
          exact .inl ⟨W1.stop i G2 H2 (by omega) s2 R2.gh, k σ2 G2 H2 R2 (s1.trans s2)⟩
      · cases he
    · cases he
  · cases he
theorem cs_for {tgx iter : Expr} {body : List Stmt} {g : List D → Option (List D)} {xs : List Ex} {tg : Tg} (hp : PassesOwn (model X.prog X.w) X.A X.env X.xe) (hc : X.calm = true) (hi : PI X tgx iter (tI C g xs)) (hg : PG X tgx (tG C tg)) (hb : PSs X body (tS C s))
    (hs : ∀ x, foldedSetIterable iter X.env x = pure x := by intro _; rfl) : PS X (.For tgx iter body [] pos) (tS C (.forr g xs tg s)) := (ps_for hp hc hi hg hb hs).imp fun D σ H q => for_of (fun _ _ _ h => h) q
theorem while_of {n : Nat} {D : Ends} {σ : St} {H : Hp} (q : tS C (.whil n z s) D σ H) : tWhile (tT C z) (tS C s) D σ H := by
  obtain ⟨F, G0, G, pn, e, o, R, he, k⟩ := q
  unfold ex at he
  let fc : Env' → Option (Bool × Env') := fun e => match ev z e with
      | some (r, e1) => (match r.get e1 with
        | some d => (match truth d with
          | some t => some (t, e1)
          | none => none)
        | none => none)
      | none => none
  have he' : whileLoop fc (fun e => ex s e) n e = some o := he
  refine ⟨fun m σ H => ∃ (G2 : Hp) (e3 : Env'), Same G G2 ∧ Rel C F G0 G2 H pn σ e3 ∧ whileLoop fc (fun e => ex s e) m e3 = some o, ⟨n, G, e, Same.refl G, R, he'⟩, ?_⟩
  rintro m σ2 H2 ⟨G2, e3, s2, R2, hl⟩
  cases m with
  | zero => unfold whileLoop at hl; cases hl
  | succ m =>
    unfold whileLoop at hl
    have test : ∀ {b : Bool} {e4 : Env'}, fc e3 = some (b, e4) → ∀ Q : Bool → Hp → Prop, (∀ G' H', Rel C F G0 G' H' pn σ2 e4 → Same G2 G' → Q b H') → tT C z σ2 H2 Q := fun {b e4} h Q hQ => by
      have h' : (match ev z e3 with
        | some (r, e1) => (match r.get e1 with
          | some d => (match truth d with
            | some t => some (t, e1)
            | none => none)
          | none => none)
        | none => none) = some (b, e4) := h
      split at h'
      · rename_i r e1 q1
        split at h'
        · rename_i d q2
          split at h'
          · rename_i t q3
            cases h'
            exact ⟨F, G0, G2, pn, e3, r, _, d, _, R2, q1, q2, q3, hQ⟩
          · cases h'
        · cases h'
      · cases h'
    split at hl
    · rename_i e4 h4
      cases hl
      exact test h4 _ fun G4 H4 R4 s4 => iteF (k σ2 G4 H4 R4 (s2.trans s4))
    · rename_i e4 h4
      refine test h4 _ fun G4 H4 R4 s4 => iteT ⟨fun σ' H' => ∃ (G2 : Hp) (e3 : Env'), Same G G2 ∧ Rel C F G0 G2 H' pn σ' e3 ∧ whileLoop fc (fun e => ex s e) m e3 = some o, fun σ' H' h => ⟨m, Nat.lt_succ_self m, h⟩, ?_⟩
      have s24 := s2.trans s4
      split at hl
      · rename_i e5 h5
        exact ⟨F, G0, G4, pn, e4, _, R4, h5, fun σ' G' H' R' s' => ⟨G', e5, s24.trans s', R', hl⟩⟩
      · rename_i e5 h5
        exact ⟨F, G0, G4, pn, e4, _, R4, h5, fun σ' G' H' R' s' => ⟨G', e5, s24.trans s', R', hl⟩⟩
      · rename_i e5 h5
        cases hl
        exact ⟨F, G0, G4, pn, e4, _, R4, h5, fun σ' G' H' R' s' => k σ' G' H' R' (s24.trans s')⟩
      · rename_i v5 e5 h5
        cases hl
        exact ⟨F, G0, G4, pn, e4, _, R4, h5, fun v σ' G' H' R' s' rv => k v σ' G' H' R' (s24.trans s') rv⟩
      · rename_i v5 e5 h5
        cases hl
        exact ⟨F, G0, G4, pn, e4, _, R4, h5, fun p o σ' G' H' R' s' => k p o σ' G' H' R' (s24.trans s')⟩
      · cases hl
    · cases hl
theorem cs_while {body : List Stmt} {n : Nat} (hp : PassesOwn (model X.prog X.w) X.A X.env X.xe) (hc : PT X c (tT C z)) (hb : PSs X body (tS C s)) : PS X (.While c body [] pos) (tS C (.whil n z s)) := (ps_while hp hc hb).imp fun D σ H q => while_of q
end
def initI (N : Nat) (ds : List D) : Env' := ds.map B.im ++ List.replicate (N - ds.length) .un
def runI (n N : Nat) (s : S) : List D → Option D := fun ds => if ds.length = n then (match ex s (initI N ds) with
  | some (.rt d _) => some d
  | some (.nx _) => some .non
  | _ => none) else none
def initO (N : Nat) (d0 : D) (ds : List D) : Env' := .io d0 :: (ds.map B.im ++ List.replicate (N - (ds.length + 1)) .un)
def outO (e : Env') : Option D := match e with
  | .io d :: _ => some d
  | _ => none
def runO (n N : Nat) (s : S) : List D → Option (D × D) := fun ds => match ds with
  | d0 :: ds => if ds.length + 1 = n then (match ex s (initO N d0 ds) with
    | some (.rt d e) => (outO e).map fun d1 => (d, d1)
    | some (.nx e) => (outO e).map fun d1 => (.non, d1)
    | _ => none) else none
  | [] => none
section
variable {P : Program} {w : World} {K : Frag} {mg : Str → Option Value} {base : Heap} {C : Cfg} {nm qual : Str} {params : Arguments} {body : List Stmt} {scope : Scope} {f : Addr} {fd : FuncData} {N ps : List Str} {k : Nat} {s : S}
theorem fnI_of (F : FunD K nm qual params body scope [] [] f fd) (S : FnScope N ps scope) (hK : C.K = K) (hb : ∀ (cdv : Value) (A : Around) (outer : List Env) (s0 : Shared) (H : Hp) (E : XK), (∀ oc od osl fd', K.lookup f = some ⟨oc, od, .func fd', osl⟩ → fd'.code = cdv) → Room k (A.deeper (envOfC qual scope s0.heap.objs.size f cdv)) →
      PSs (cxOf CX0 P w K mg base N qual scope f cdv A outer s0 H E).nox body (tS C s)) : FnOk P w K mg base CX0 (k + 1) f fd ps (spI C ps.length (runI ps.length N.length s)) := by
  obtain ⟨oc, od, dV, kV, doc, pm, an, cdv, ct, osl, rfl, lk, hcd, _, _⟩ := F.ex
  refine fn_of lk hcd S (fun vs H Q E h => ?_) fun A outer s0 H vs Q E hr hsp => ?_
  · obtain ⟨_, _, _, h, _⟩ := h
    exact h
  · refine ⟨_, (hb cdv A outer s0 H E (fun oc2 od2 osl2 fd2 h => by rw [lk] at h; cases h; rfl) hr).nox, ?_⟩
    obtain ⟨G, ds, d, hl, gh, tb, rl, hφ, hQ⟩ := hsp
    unfold runI at hφ
    split at hφ
    · rename_i hn
      have R : Rel C (fun p => if p ∈ C.tt then none else H p) G G H [] (L2.start N vs) (initI N.length ds) := by
        have hle : ∀ i, i < ds.length → (initI N.length ds)[i]? = (ds[i]?).map B.im := fun i hi => by
          unfold initI
          rw [List.getElem?_append_left (by rw [List.length_map]; exact hi), List.getElem?_map]
        have hge : ∀ i b, ds.length ≤ i → (initI N.length ds)[i]? = some b → b = .un := fun i b hi h => by
          unfold initI at h
          rw [List.getElem?_append_right (by rw [List.length_map]; exact hi)] at h
          exact (List.mem_replicate.mp (List.mem_of_getElem? h)).2
        have ow : ∀ (i : Nat) (b : B), (initI N.length ds)[i]? = some b → b.isOw = true → False := fun i b h1 h2 => by
          by_cases hi : i < ds.length
          · rw [hle i hi] at h1
            cases q : ds[i]? with
            | none => rw [q] at h1; cases h1
            | some d => rw [q] at h1; cases h1; cases h2
          · rw [hge i b (by omega) h1] at h2; cases h2
        have frn : ∀ (i : Nat) (d : D), (initI N.length ds)[i]? = some (.fr d) → False := fun i d h1 => by
          by_cases hi : i < ds.length
          · rw [hle i hi] at h1
            cases q : ds[i]? with
            | none => rw [q] at h1; cases h1
            | some d => rw [q] at h1; cases h1
          · cases hge i _ (by omega) h1
        refine ⟨fun b o h => ?_, gh, fun _ _ _ => rfl, fun P hP => ⟨(tb P hP).1, (tb P hP).2, if_pos hP⟩, fun i b h => ?_, fun i j p ⟨_, b, h1, h2⟩ _ => (ow i b h1 h2).elim, fun i nm fs h => (ow i _ h rfl).elim, fun i d h => (frn i d h).elim, fun i p h => (nomatch h), ?_⟩
        · have h' : (if b ∈ C.tt then none else H b) = some o := h
          split at h'
          · cases h'
          · exact h'
        · by_cases hi : i < ds.length
          · rw [hle i hi] at h
            cases q : ds[i]? with
            | none => rw [q] at h; cases h
            | some d =>
              rw [q] at h
              cases h
              obtain ⟨v, h1, h2⟩ := rl.getD q
              refine ⟨v, ?_, h2⟩
              unfold L2.start
              rw [List.getElem?_append_left (by rw [List.length_map, rl.length]; exact hi), List.getElem?_map, h1]
              rfl
          · rw [hge i b (by omega) h]
            trivial
        · unfold L2.start initI
          rw [List.length_append, List.length_append, List.length_map, List.length_map, List.length_replicate, List.length_replicate, rl.length]
      have fin : ∀ {v : V} {σ' : St} {G' H' : Hp} {e' : Env'} {d : D}, Rel C (fun p => if p ∈ C.tt then none else H p) G G' H' [] σ' e' → Same G G' → Rep C.K G' v d → (∀ v G' H', Grow C G H G' H' → Rep C.K G' v d → Q v H') → Q v H' := fun {v σ' G' H' e' d} R' s' rv hQ => by
        refine hQ v G' H' ⟨s', R'.gh, fun p hp ht => ?_, fun p hp hn => ?_, R'.tabs⟩ rv
        · cases q : H p with
          | none => exact absurd q hp
          | some o => exact R'.fh p o ((if_neg ht).trans q)
        · by_cases ht : p ∈ C.tt
          · rw [(R'.tb p ht).2.1, (tb p ht).2]
          · exact R'.gf p (fun z => hp ((if_neg ht).symm.trans z)) (fun xs z => hn xs ((if_neg ht).symm.trans z))
      split at hφ
      · rename_i d1 e1 hx
        cases hφ
        exact ⟨_, G, G, [], _, _, R, hx, fun v σ' G' H' R' s' rv => fin R' s' rv hQ⟩
      · rename_i e1 hx
        cases hφ
        exact ⟨_, G, G, [], _, _, R, hx, fun σ' G' H' R' s' => fin R' s' .non hQ⟩
      · cases hφ
    · cases hφ
theorem fnO_of (F : FunD K nm qual params body scope [] [] f fd) (S : FnScope N ps scope) (hK : C.K = K) (hb : ∀ (cdv : Value) (A : Around) (outer : List Env) (s0 : Shared) (H : Hp) (E : XK), (∀ oc od osl fd', K.lookup f = some ⟨oc, od, .func fd', osl⟩ → fd'.code = cdv) → Room k (A.deeper (envOfC qual scope s0.heap.objs.size f cdv)) →
      PSs (cxOf CX0 P w K mg base N qual scope f cdv A outer s0 H E).nox body (tS C s)) : FnOk P w K mg base CX0 (k + 1) f fd ps (spO C ps.length (runO ps.length N.length s)) := by
  obtain ⟨oc, od, dV, kV, doc, pm, an, cdv, ct, osl, rfl, lk, hcd, _, _⟩ := F.ex
  refine fn_of lk hcd S (fun vs H Q E h => ?_) fun A outer s0 H vs Q E hr hsp => ?_
  · obtain ⟨_, _, _, _, _, _, _, _, _, h, _⟩ := h
    exact h
  · refine ⟨_, (hb cdv A outer s0 H E (fun oc2 od2 osl2 fd2 h => by rw [lk] at h; cases h; rfl) hr).nox, ?_⟩
    obtain ⟨G, p0, o0, d0, ws, ds, d, d1, rfl, hl, gh, tb, g0, t0, h0, r0, rl, hφ, hQ⟩ := hsp
    unfold runO at hφ
    dsimp only at hφ
    split at hφ
    · rename_i hn
      have R : Rel C (fun p => if p ∈ C.tt ∨ p = p0 then none else H p) G G H [(0, p0)] (L2.start N (.ref p0 :: ws)) (initO N.length d0 ds) := by
        have hle : ∀ i, i < ds.length → (initO N.length d0 ds)[i + 1]? = (ds[i]?).map B.im := fun i hi => by
          unfold initO
          rw [List.getElem?_cons_succ, List.getElem?_append_left (by rw [List.length_map]; exact hi), List.getElem?_map]
        have hge : ∀ i b, ds.length ≤ i → (initO N.length d0 ds)[i + 1]? = some b → b = .un := fun i b hi h => by
          unfold initO at h
          rw [List.getElem?_cons_succ, List.getElem?_append_right (by rw [List.length_map]; exact hi)] at h
          exact (List.mem_replicate.mp (List.mem_of_getElem? h)).2
        have ow : ∀ (i : Nat) (b : B), (initO N.length d0 ds)[i + 1]? = some b → b.isOw = true → False := fun i b h1 h2 => by
          by_cases hi : i < ds.length
          · rw [hle i hi] at h1
            cases q : ds[i]? with
            | none => rw [q] at h1; cases h1
            | some d => rw [q] at h1; cases h1; cases h2
          · rw [hge i b (by omega) h1] at h2; cases h2
        have frn : ∀ (i : Nat) (d : D), (initO N.length d0 ds)[i]? = some (.fr d) → False := fun i d h1 => by
          cases i with
          | zero => cases h1
          | succ i =>
            by_cases hi : i < ds.length
            · rw [hle i hi] at h1
              cases q : ds[i]? with
              | none => rw [q] at h1; cases h1
              | some d => rw [q] at h1; cases h1
            · cases hge i _ (by omega) h1
        have obn : ∀ (i : Nat) (nm : Str) (fs : List (Str × FD)), (initO N.length d0 ds)[i]? = some (.ob nm fs) → False := fun i nm fs h1 => by
          cases i with
          | zero => cases h1
          | succ i => exact ow i _ h1 rfl
        refine ⟨fun b o h => ?_, gh, fun _ _ _ => rfl, fun P hP => ⟨(tb P hP).1, (tb P hP).2, if_pos (.inl hP)⟩, fun i b h => ?_, fun i j p ⟨_, b, h1, h2⟩ ⟨_, b', h3, h4⟩ => ?_, fun i nm fs h => (obn i nm fs h).elim, fun i d h => (frn i d h).elim, fun i p h => ?_, ?_⟩
        · have h' : (if b ∈ C.tt ∨ b = p0 then none else H b) = some o := h
          split at h'
          · cases h'
          · exact h'
        · cases i with
          | zero =>
            cases h
            exact ⟨p0, o0, rfl, g0, if_pos (.inr rfl), t0, h0, r0⟩
          | succ i =>
            by_cases hi : i < ds.length
            · rw [hle i hi] at h
              cases q : ds[i]? with
              | none => rw [q] at h; cases h
              | some d =>
                rw [q] at h
                cases h
                obtain ⟨v, h1, h2⟩ := rl.getD q
                refine ⟨v, ?_, h2⟩
                unfold L2.start
                rw [List.map_cons, List.cons_append, List.getElem?_cons_succ, List.getElem?_append_left (by rw [List.length_map, rl.length]; exact hi), List.getElem?_map, h1]
                rfl
            · rw [hge i b (by omega) h]
              trivial
        · cases i with
          | zero =>
            cases j with
            | zero => rfl
            | succ j => exact (ow j b' h3 h4).elim
          | succ i => exact (ow i b h1 h2).elim
        · cases List.mem_singleton.mp h
          exact ⟨rfl, _, rfl, rfl⟩
        · unfold L2.start initO
          simp only [List.length_append, List.length_cons, List.length_map, List.length_replicate, rl.length]
          omega
      have fin : ∀ {v : V} {σ' : St} {G' H' : Hp} {e' : Env'} {d d1 : D}, Rel C (fun p => if p ∈ C.tt ∨ p = p0 then none else H p) G G' H' [(0, p0)] σ' e' → Same G G' → Rep C.K G' v d → outO e' = some d1 →
          (∀ v G' H' o', GrowO C p0 G H G' H' → Rep C.K G' v d → H' p0 = some o' → RepO C.K G' o' d1 → Q v H') → Q v H' := fun {v σ' G' H' e' d d1} R' s' rv ho hQ => by
        obtain ⟨k1, _⟩ := R'.pi 0 p0 (List.mem_singleton.mpr rfl)
        have k2 : e'[0]? = some (.io d1) := by
          unfold outO at ho
          split at ho
          · cases ho; rfl
          · cases ho
        obtain ⟨p1, o1, z, z1, _, z3, z4, z5⟩ := R'.sl 0 _ k2
        rw [k1] at z
        cases z
        refine hQ v G' H' o1 ⟨s', R'.gh, fun p hp hp2 ht => ?_, fun p hp hn => ?_, R'.tabs⟩ rv z4 z5
        · cases q : H p with
          | none => exact absurd q hp2
          | some o => exact R'.fh p o ((if_neg (fun z => z.elim ht hp)).trans q)
        · by_cases ht : p ∈ C.tt
          · rw [(R'.tb p ht).2.1, (tb p ht).2]
          · by_cases hp0 : p = p0
            · rw [hp0, z1, g0]
            · exact R'.gf p (fun z => hp ((if_neg (fun z => z.elim ht hp0)).symm.trans z)) (fun xs z => hn xs ((if_neg (fun z => z.elim ht hp0)).symm.trans z))
      split at hφ
      · rename_i d2 e1 hx
        cases q : outO e1 with
        | none => rw [q] at hφ; cases hφ
        | some d3 =>
          rw [q] at hφ
          cases hφ
          exact ⟨_, G, G, [(0, p0)], _, _, R, hx, fun v σ' G' H' R' s' rv => fin R' s' rv q hQ⟩
      · rename_i e1 hx
        cases q : outO e1 with
        | none => rw [q] at hφ; cases hφ
        | some d3 =>
          rw [q] at hφ
          cases hφ
          exact ⟨_, G, G, [(0, p0)], _, _, R, hx, fun σ' G' H' R' s' => fin R' s' .non q hQ⟩
      · cases hφ
    · cases hφ
end
end Mi
namespace Mi
open PySem PySem.Spec PyProof.Rows L2 GxR
section
variable {X : Cx} {C : Cfg}
theorem res_flat {G H : Hp} {Q : VK} {v : V} {d : D} (s : Same G H) (t : ∀ P ∈ C.tt, TabC C H P) (k : ∀ v G' H', Grow C G H G' H' → Rep C.K G' v d → Q v H') (r : Rep C.K G v d) : Q v H := k v G H (Grow.refl s t) r
theorem strOf (s : List Nat) : (⟨s.toArray⟩ : Str).cps.toList = s := by simp
theorem strLen (s : List Nat) : (⟨s.toArray⟩ : Str).length = s.length := by simp [Str.length]
theorem strApp (a b : List Nat) : (⟨a.toArray⟩ : Str) ++ ⟨b.toArray⟩ = ⟨(a ++ b).toArray⟩ := by
  show (⟨a.toArray ++ b.toArray⟩ : Str) = _
  simp
def addF : List D → Option D
  | [.int a, .int b] => some (.int (a + b))
  | [.str a, .str b] => if a.length + b.length ≤ 16000000 then some (.str (a ++ b)) else none
  | [.lst a, .lst b] => if a.length + b.length ≤ 16000000 then some (.lst (a ++ b)) else none
  | [.tup a, .tup b] => if a.length + b.length ≤ 16000000 then some (.tup (a ++ b)) else none
  | [.int a, .bl b] => some (.int (a + if b then 1 else 0))
  | _ => none
def addLF : List D → Option D
  | [.lst a, .lst b] => if a.length + b.length ≤ 16000000 then some (.lst (a ++ b)) else none
  | _ => none
theorem addF_two : Two addF := fun ds d h => by
  unfold addF at h
  split at h <;> first | rfl | cases h
theorem cat_tup0 {prog : Program} {w : World} {A : Around} {E : Value → Shared → Prop} {s : Shared} {t b : Addr} {vs ws : List Value} {Q : Value → Shared → Prop} (ht : IsTup s.heap t vs.toArray) (hb : IsTup s.heap b ws.toArray) (hv : vs = [])
    (h : Q (.ref b) s) : wpAny (model prog w) A (binaryOp .Add (.ref t) (.ref b)) Q E s := by
  obtain ⟨⟨cls, dd, data, sl⟩, ho, hc, n, hd⟩ := id ht
  obtain ⟨⟨cls2, dd2, data2, sl2⟩, ho2, hc2, n2, hd2⟩ := id hb
  simp only at hc hd hc2 hd2
  subst hc hd hc2 hd2
  exact concat_meets ⟨_, ho, rfl⟩ ⟨_, ho2, rfl⟩ noFill_tuple_add seq_tuple_add PySem.F.slot_tuple_add PySem.F.entry_tuple_add (PySem.F.args_tuple_add_2 _ _)
      (tuple_addW0 t b vs.toArray ws.toArray n n2 dd dd2 sl sl2 (by simp [hv])) ⟨ho, ho2, h⟩
def rCat0 (K : Frag) : R2 := fun x y H Q => ∃ a b ys, x = .ref a ∧ y = .ref b ∧ SqT K H a [] ∧ SqT K H b ys ∧ Q (.ref b) H
theorem op_cat0 : OpR X (binaryOp .Add) (rCat0 X.K) := by
  intro pins s σ H x y v u Q I rx ry h
  obtain ⟨a, b, ys, rfl, rfl, ha, hb, q⟩ := h
  cases rx
  cases ry
  obtain ⟨its, r1, p1, _⟩ := I.tuple ha
  obtain ⟨its2, r2, p2, _⟩ := I.tuple hb
  exact cat_tup0 p1 p2 (r1.nil_iff.mpr rfl) ⟨.ref b, H, I, rfl, q⟩
def rAddA (K : Frag) : R2 := fun x y H Q => rI0 (fun i j => .int (i + j)) x y H Q ∨ (∃ i j, x = .str i ∧ y = .str j ∧ i.length + j.length ≤ sizeLine ∧ Q (.str (i ++ j)) H) ∨ rCat x y H Q ∨ (rCatT K x y H Q ∨ rCat0 K x y H Q) ∨ (∃ i k, x = .int i ∧ y = .bl k ∧ Q (.int (i + b2i k)) H)
theorem op_addA : OpR X (binaryOp .Add) (rAddA X.K) := op_add.or (op_add_str.or (op_cat.or ((op_catT.or op_cat0).or op_add_ib)))
theorem addLF_ok : Ok2F C rCat addLF := fun x y a b d G H Q s t r1 r2 e k => by
  unfold addLF at e
  split at e
  · rename_i l m hq
    cases hq
    split at e
    · rename_i hz
      cases e
      cases r1 with
      | lst q1 rr1 =>
        cases r2 with
        | lst q2 rr2 => exact ⟨_, _, _, _, rfl, rfl, q1, q2, by rw [rr1.length, rr2.length]; exact lim16 hz, fun p hp => k p _ hp (.lst (rr1.append rr2))⟩
    · cases e
  · cases e
theorem addF_ok (hK : C.K.f = X.K) : Ok2 C (rAddA X.K) addF := fun x y a b d G H Q s t r1 r2 e k => by
  unfold addF at e
  split at e
  · rename_i i j hq
    cases hq
    cases e
    cases r1
    cases r2
    exact .inl ⟨i, j, rfl, rfl, res_flat s t k (.int _)⟩
  · rename_i i j hq
    cases hq
    split at e
    · rename_i hz
      cases e
      cases r1
      cases r2
      refine .inr (.inl ⟨_, _, rfl, rfl, by rw [strLen, strLen]; exact lim16 hz, ?_⟩)
      rw [strApp]
      exact res_flat s t k (.str _)
    · cases e
  · rename_i l m hq
    cases hq
    split at e
    · rename_i hz
      cases e
      exact .inr (.inr (.inl (addLF_ok x y (.lst l) (.lst m) _ G H Q s t r1 r2 (by unfold addLF; exact if_pos hz) (known_of_new s t k))))
    · cases e
  · rename_i l m hq
    cases hq
    split at e
    · rename_i hz
      cases e
      cases r1 with
      | tup g1 q1 rr1 =>
        cases r2 with
        | tup g2 q2 rr2 =>
          by_cases h0 : l = []
          · subst h0
            cases rr1
            exact .inr (.inr (.inr (.inl (.inr ⟨_, _, _, rfl, rfl, SqT.of q1, SqT.of q2, res_flat s t k (.tup g2 rr2)⟩))))
          · refine .inr (.inr (.inr (.inl (.inl ⟨_, _, _, _, rfl, rfl, SqT.of q1, SqT.of q2, fun z => h0 ?_, by rw [rr1.length, rr2.length]; exact lim16 hz, fun z => ?_, fun _ p hp => ?_⟩))))
            · rw [z] at rr1; cases rr1; rfl
            · rw [z] at rr2
              cases rr2
              rw [List.append_nil] at k
              exact res_flat s t k (.tup g1 rr1)
            · have gp := s.free hp
              exact k (.ref p) (upd G p (.tup _)) (upd H p (.tup _)) (grow_new s t hp) (.tup upd_same ((rr1.append rr2).mono fun b u hb => by rw [upd_ne (ne_of_none hb gp)]; exact hb))
    · cases e
  · rename_i i b hq
    cases hq
    cases e
    cases r1
    cases r2
    exact .inr (.inr (.inr (.inr ⟨i, b, rfl, rfl, res_flat s t k (by cases b <;> exact .int _)⟩)))
  · cases e
def subF : List D → Option D
  | [.int a, .int b] => some (.int (a - b))
  | _ => none
theorem subF_two : Two subF := fun ds d h => by
  unfold subF at h
  split at h <;> first | rfl | cases h
theorem subF_ok : Ok2 C (rI0 fun i j => .int (i - j)) subF := fun x y a b d G H Q s t r1 r2 e k => by
  unfold subF at e
  split at e
  · rename_i i j hq
    cases hq
    cases e
    cases r1
    cases r2
    exact ⟨i, j, rfl, rfl, res_flat s t k (.int _)⟩
  · cases e
def mulF : List D → Option D
  | [.int a, .int b] => if (-(2 ^ 64) < a ∧ a < 2 ^ 64) ∨ (-(2 ^ 64) < b ∧ b < 2 ^ 64) then some (.int (a * b)) else none
  | [.str s, .int n] => if n ≤ 16000000 ∧ -16000000 ≤ n ∧ s.length * n.toNat ≤ 16000000 then some (.str (List.replicate n.toNat s).flatten) else none
  | [.lst l, .int n] => if n ≤ 16000000 ∧ -16000000 ≤ n ∧ l.length * n.toNat ≤ 16000000 then some (.lst (List.replicate n.toNat l).flatten) else none
  | _ => none
def mulLF : List D → Option D
  | [.lst l, .int n] => if n ≤ 16000000 ∧ -16000000 ≤ n ∧ l.length * n.toNat ≤ 16000000 then some (.lst (List.replicate n.toNat l).flatten) else none
  | _ => none
theorem mulF_two : Two mulF := fun ds d h => by
  unfold mulF at h
  split at h <;> first | rfl | cases h
def rStrRep : R2 := fun x y H Q => ∃ (z : List Nat) (n : Int), x = .str ⟨z.toArray⟩ ∧ y = .int n ∧ n ≤ 16000000 ∧ -16000000 ≤ n ∧ z.length * n.toNat ≤ 16000000 ∧ Q (.str ⟨(List.replicate n.toNat z).flatten.toArray⟩) H
theorem foldl_str (z : List Nat) : ∀ (n : Nat) (acc : Array Nat), (List.replicate n z.toArray).foldl (· ++ ·) acc = acc ++ (List.replicate n z).flatten.toArray
  | 0, acc => by simp
  | n + 1, acc => by
    rw [List.replicate_succ, List.foldl_cons, foldl_str z n]
    simp [List.replicate_succ]
theorem op_strrep : OpR X (binaryOp .Mult) rStrRep := by
  intro pins s σ H x y v u Q I rx ry h
  obtain ⟨z, n, rfl, rfl, h1, h2, h3, q⟩ := h
  obtain ⟨t, rfl⟩ := rx
  obtain ⟨t', rfl⟩ := ry
  refine PySem.P.mul_str (by
    have e1 : decide (n < -(2 ^ 63 : Int)) = false := decide_eq_false (by omega)
    have e2 : decide (n ≥ 2 ^ 63) = false := decide_eq_false (by omega)
    rw [e1, e2] <;> rfl) (fun hn hz => ?_) (fun hn hz => ?_) ?_
  · rw [strLen]
    have hn1 : 1 ≤ n := by omega
    have h4 : z.length ≤ 16000000 := by
      have : z.length * 1 ≤ z.length * n.toNat := Nat.mul_le_mul_left _ (by omega)
      omega
    have h5 : (2 ^ 63 - 1) / 16000000 ≤ ((2 : Int) ^ 63 - 1) / n := by
      have : ((2 : Int) ^ 63 - 1) / 16000000 ≤ (2 ^ 63 - 1) / n := by
        refine Int.le_ediv_of_mul_le (by omega) ?_
        have h6 : ((2 : Int) ^ 63 - 1) / 16000000 * n ≤ ((2 : Int) ^ 63 - 1) / 16000000 * 16000000 := Int.mul_le_mul_of_nonneg_left h1 (by decide)
        have h7 : ((2 : Int) ^ 63 - 1) / 16000000 * 16000000 ≤ 2 ^ 63 - 1 := by decide
        omega
      exact this
    have h8 : (16000000 : Int) ≤ (2 ^ 63 - 1) / 16000000 := by decide
    omega
  · rw [strLen]
    have := lim16 h3
    unfold Builtin.Str.tooLong
    simpa using this
  · by_cases hn : n < 1
    · rw [if_pos hn]
      have e0 : n.toNat = 0 := by omega
      rw [e0] at q
      exact ⟨by decide, .str _, H, I.tok _, ⟨_, rfl⟩, q⟩
    · rw [if_neg hn]
      by_cases hz : (n == 1 || (⟨z.toArray⟩ : Str).length == 0) = true
      · rw [if_pos hz]
        have e0 : (List.replicate n.toNat z).flatten = z := by
          rcases Bool.or_eq_true_iff.mp hz with e | e
          · have : n = 1 := by simpa using e
            subst this
            simp
          · rw [strLen] at e
            have : z = [] := by
              cases z with
              | nil => rfl
              | cons a b => simp at e
            subst this
            simp
        rw [e0] at q
        exact ⟨.str _, H, I, ⟨_, rfl⟩, q⟩
      · rw [if_neg hz]
        have e1 : (List.replicate n.toNat (⟨z.toArray⟩ : Str).cps).foldl (· ++ ·) #[] = (List.replicate n.toNat z).flatten.toArray := by
          show (List.replicate n.toNat z.toArray).foldl (· ++ ·) #[] = _
          rw [foldl_str]
          simp
        rw [e1]
        refine ⟨?_, .str _, H, I.tok _, ⟨_, rfl⟩, q⟩
        rw [strLen]
        have : (List.replicate n.toNat z).flatten.length = z.length * n.toNat := by
          rw [List.length_flatten, List.map_replicate, List.sum_replicate_nat, Nat.mul_comm]
        rw [this]
        exact lim16 h3
def rMulA : R2 := fun x y H Q => rI CMul (fun i j => .int (i * j)) x y H Q ∨ rStrRep x y H Q ∨ rRep x y H Q
theorem op_mulA : OpR X (binaryOp .Mult) rMulA := op_mul.or (op_strrep.or op_rep)
theorem repL_rep {K : FragW} {G : Hp} {xs : List V} {ds : List D} (r : RepL K G xs ds) : ∀ n : Nat, RepL K G (List.replicate n xs).flatten (List.replicate n ds).flatten
  | 0 => by simpa using RepL.nil
  | n + 1 => by
    rw [List.replicate_succ, List.replicate_succ, List.flatten_cons, List.flatten_cons]
    exact r.append (repL_rep r n)
theorem mulLF_ok : Ok2F C rRep mulLF := fun x y a b d G H Q s t r1 r2 e k => by
  unfold mulLF at e
  split at e
  · rename_i l n hq
    cases hq
    split at e
    · rename_i hz
      cases e
      cases r2
      cases r1 with
      | lst q1 rr1 => exact ⟨_, n, _, rfl, rfl, q1, by omega, by omega, by rw [rr1.length]; exact lim16 hz.2.2, fun p hp => k p _ hp (.lst (repL_rep rr1 _))⟩
    · cases e
  · cases e
theorem mulF_ok : Ok2 C rMulA mulF := fun x y a b d G H Q s t r1 r2 e k => by
  unfold mulF at e
  split at e
  · rename_i i j hq
    cases hq
    split at e
    · rename_i hz
      cases e
      cases r1
      cases r2
      exact .inl ⟨i, j, rfl, rfl, hz, res_flat s t k (.int _)⟩
    · cases e
  · rename_i z n hq
    cases hq
    split at e
    · rename_i hz
      cases e
      cases r1
      cases r2
      exact .inr (.inl ⟨z, n, rfl, rfl, hz.1, hz.2.1, hz.2.2, res_flat s t k (.str _)⟩)
    · cases e
  · rename_i l n hq
    cases hq
    split at e
    · rename_i hz
      cases e
      exact .inr (.inr (mulLF_ok x y (.lst l) (.int n) _ G H Q s t r1 r2 (by unfold mulLF; exact if_pos hz) (known_of_new s t k)))
    · cases e
  · cases e
def modF : List D → Option D
  | [.int a, .int b] => if b ≠ 0 then some (.int (a.fmod b)) else none
  | _ => none
theorem modF_two : Two modF := fun ds d h => by
  unfold modF at h
  split at h <;> first | rfl | cases h
theorem modF_ok : Ok2 C (rI (fun _ j => j ≠ 0) fun i j => .int (i.fmod j)) modF := fun x y a b d G H Q s t r1 r2 e k => by
  unfold modF at e
  split at e
  · rename_i i j hq
    cases hq
    split at e
    · rename_i hz
      cases e
      cases r1
      cases r2
      exact ⟨i, j, rfl, rfl, hz, res_flat s t k (.int _)⟩
    · cases e
  · cases e
def powF : List D → Option D
  | [.int a, .int b] => if 0 ≤ b ∧ b ≤ 1000000 ∧ a.natAbs < 2 ^ 64 then some (.int (a ^ b.toNat)) else none
  | _ => none
theorem powF_two : Two powF := fun ds d h => by
  unfold powF at h
  split at h <;> first | rfl | cases h
theorem powF_ok : Ok2 C (rI CPow fun i j => .int (i ^ j.toNat)) powF := fun x y a b d G H Q s t r1 r2 e k => by
  unfold powF at e
  split at e
  · rename_i i j hq
    cases hq
    split at e
    · rename_i hz
      cases e
      cases r1
      cases r2
      exact ⟨i, j, rfl, rfl, hz, res_flat s t k (.int _)⟩
    · cases e
  · cases e
def negF : List D → Option D
  | [.int a] => some (.int (-a))
  | _ => none
theorem repTs_one {G H : Hp} {vs : List V} {d : D} (r : RepTs C.K G H vs [d]) : ∃ v, vs = [v] ∧ RepT C.K G H v d := by
  cases r with
  | cons a b => cases b; exact ⟨_, rfl, a⟩
theorem repTs_two {G H : Hp} {vs : List V} {d e : D} (r : RepTs C.K G H vs [d, e]) : ∃ v w, vs = [v, w] ∧ RepT C.K G H v d ∧ RepT C.K G H w e := by
  cases r with
  | cons a b =>
    cases b with
    | cons b c => cases c; exact ⟨_, _, rfl, a, b⟩
theorem negF_ok : OkN C (fun vs H Q => ∃ a, vs = [a] ∧ rU (fun i => .int (-i)) a H Q) negF := fun vs ds d G H Q s t r e k => by
  unfold negF at e
  split at e
  · rename_i i
    cases e
    obtain ⟨v, rfl, rv⟩ := repTs_one r
    cases rv
    exact ⟨_, rfl, i, rfl, res_flat s t k (.int _)⟩
  · cases e
def cmpF (fi : Int → Int → Bool) (fs : List Nat → List Nat → Bool) : List D → Option D
  | [.int a, .int b] => some (.bl (fi a b))
  | [.str a, .str b] => some (.bl (fs a b))
  | _ => none
theorem cmpF_two {fi : Int → Int → Bool} {fs : List Nat → List Nat → Bool} : Two (cmpF fi fs) := fun ds d h => by
  unfold cmpF at h
  split at h <;> first | rfl | cases h
theorem cmpF_boo {fi : Int → Int → Bool} {fs : List Nat → List Nat → Bool} : Boo (cmpF fi fs) := fun ds d h => by
  unfold cmpF at h
  split at h
  · cases h; exact ⟨_, rfl⟩
  · cases h; exact ⟨_, rfl⟩
  · cases h
def rCmpA (fi : Int → Int → Bool) (fs : List Nat → List Nat → Bool) : R2 := fun x y H Q => rI0 (fun i j => .bl (fi i j)) x y H Q ∨ ∃ i j, x = .str i ∧ y = .str j ∧ Q (.bl (fs i.cps.toList j.cps.toList)) H
theorem cmpF_ok {fi : Int → Int → Bool} {fs : List Nat → List Nat → Bool} : Ok2 C (rCmpA fi fs) (cmpF fi fs) := fun x y a b d G H Q s t r1 r2 e k => by
  unfold cmpF at e
  split at e
  · rename_i i j hq
    cases hq
    cases e
    cases r1
    cases r2
    exact .inl ⟨i, j, rfl, rfl, res_flat s t k (.bl _)⟩
  · rename_i i j hq
    cases hq
    cases e
    cases r1
    cases r2
    refine .inr ⟨_, _, rfl, rfl, ?_⟩
    rw [strOf, strOf]
    exact res_flat s t k (.bl _)
  · cases e
abbrev ltF := cmpF (fun i j => decide (i < j)) fun a b => decide (a < b)
abbrev leF := cmpF (fun i j => decide (i ≤ j)) fun a b => !decide (b < a)
abbrev gtF := cmpF (fun i j => decide (j < i)) fun a b => decide (b < a)
abbrev geF := cmpF (fun i j => decide (j ≤ i)) fun a b => !decide (a < b)
theorem op_ltA : OpR X (compareOp .Lt) (rCmpA (fun i j => decide (i < j)) fun a b => decide (a < b)) := op_lt.or op_lt_str
theorem op_leA : OpR X (compareOp .LtE) (rCmpA (fun i j => decide (i ≤ j)) fun a b => !decide (b < a)) := op_le.or op_le_str
theorem op_gtA : OpR X (compareOp .Gt) (rCmpA (fun i j => decide (j < i)) fun a b => decide (b < a)) := op_gt.or op_gt_str
theorem op_geA : OpR X (compareOp .GtE) (rCmpA (fun i j => decide (j ≤ i)) fun a b => !decide (a < b)) := op_ge.or op_ge_str
mutual
def D.eqv : D → D → Bool
  | .non, .non => true
  | .bl a, .bl b => a == b
  | .bl a, .int j => (if a then 1 else 0) == j
  | .int i, .bl b => i == (if b then 1 else 0)
  | .int i, .int j => i == j
  | .str x, .str y => x == y
  | .lst xs, .lst ys => D.eqvL xs ys
  | .tup xs, .tup ys => D.eqvL xs ys
  | _, _ => false
def D.eqvL : List D → List D → Bool
  | [], [] => true
  | x :: xs, y :: ys => D.eqv x y && D.eqvL xs ys
  | _, _ => false
end
mutual
def D.py : D → PyData
  | .non => .none
  | .bl b => .bool b
  | .int i => .int i
  | .str s => .str ⟨s.toArray⟩
  | .lst l => .list (D.pyL l)
  | .tup l => .tuple (D.pyL l)
  | .dic _ _ => .dict []
  | .scr _ => .dict []
  | .fn _ => .dict []
  | .ptp _ => .dict []
  | .ndc _ _ => .dict []
def D.pyL : List D → List PyData
  | [] => []
  | d :: ds => d.py :: D.pyL ds
end
mutual
def D.shp : Nat → D → Bool
  | _, .non => true
  | _, .bl _ => true
  | _, .int _ => true
  | _, .str s => s.all fun c => decide (c < 1114112)
  | 0, .lst _ => false
  | n + 1, .lst l => D.shpL n l
  | 0, .tup _ => false
  | n + 1, .tup l => D.shpL n l
  | _, .dic _ _ => false
  | _, .scr _ => false
  | _, .fn _ => false
  | _, .ptp _ => false
  | _, .ndc _ _ => false
def D.shpL : Nat → List D → Bool
  | _, [] => true
  | n, d :: ds => D.shp n d && D.shpL n ds
end
theorem str_beq (x y : List Nat) : ((⟨x.toArray⟩ : Str) == ⟨y.toArray⟩) = (x == y) := by
  rw [Bool.eq_iff_iff]
  simp
mutual
theorem eqv_py : ∀ a b : D, PyData.eqv a.py b.py = a.eqv b
  | .non, b => by cases b <;> simp [D.py, D.eqv, PyData.eqv]
  | .bl x, b => by cases b <;> simp [D.py, D.eqv, PyData.eqv]
  | .int i, b => by cases b <;> simp [D.py, D.eqv, PyData.eqv]
  | .str s, b => by
    cases b with
    | str t => simp only [D.py, D.eqv, PyData.eqv]; exact str_beq s t
    | _ => simp [D.py, D.eqv, PyData.eqv]
  | .lst l, b => by
    cases b with
    | lst m => simp only [D.py, D.eqv, PyData.eqv]; exact eqv_pyL l m
    | _ => simp [D.py, D.eqv, PyData.eqv]
  | .tup l, b => by
    cases b with
    | tup m => simp only [D.py, D.eqv, PyData.eqv]; exact eqv_pyL l m
    | _ => simp [D.py, D.eqv, PyData.eqv]
  | .dic ks vs, b => by cases b <;> simp [D.py, D.eqv, PyData.eqv]
  | .scr ns, b => by cases b <;> simp [D.py, D.eqv, PyData.eqv]
  | .fn ns, b => by cases b <;> simp [D.py, D.eqv, PyData.eqv]
  | .ptp ns, b => by cases b <;> simp [D.py, D.eqv, PyData.eqv]
  | .ndc ks vs, b => by cases b <;> simp [D.py, D.eqv, PyData.eqv]
theorem eqv_pyL : ∀ a b : List D, PyData.eqvAll (D.pyL a) (D.pyL b) = D.eqvL a b
  | [], [] => by simp [D.pyL, D.eqvL, PyData.eqvAll]
  | [], _ :: _ => by simp [D.pyL, D.eqvL, PyData.eqvAll]
  | _ :: _, [] => by simp [D.pyL, D.eqvL, PyData.eqvAll]
  | x :: xs, y :: ys => by simp only [D.pyL, D.eqvL, PyData.eqvAll]; rw [eqv_py x y, eqv_pyL xs ys]
end
mutual
theorem shp_can : ∀ (n : Nat) (d : D), d.shp n = true → d.py.canLay0 = true ∧ d.py.depth ≤ n
  | n, .non, _ => by simp [D.py, PyData.canLay0, PyData.depth]
  | n, .bl _, _ => by simp [D.py, PyData.canLay0, PyData.depth]
  | n, .int _, _ => by simp [D.py, PyData.canLay0, PyData.depth]
  | n, .str s, h => by
    simp only [D.py, PyData.canLay0, PyData.depth]
    refine ⟨?_, Nat.zero_le _⟩
    unfold D.shp at h
    simpa [PySem.PyData.strOk, PyData.strOk] using h
  | 0, .lst _, h => by unfold D.shp at h; cases h
  | n + 1, .lst l, h => by
    unfold D.shp at h
    obtain ⟨h1, h2⟩ := shp_canL n l h
    simp only [D.py, PyData.canLay0, PyData.depth]
    exact ⟨h1, by omega⟩
  | 0, .tup _, h => by unfold D.shp at h; cases h
  | n + 1, .tup l, h => by
    unfold D.shp at h
    obtain ⟨h1, h2⟩ := shp_canL n l h
    simp only [D.py, PyData.canLay0, PyData.depth]
    exact ⟨h1, by omega⟩
  | n, .dic _ _, h => by unfold D.shp at h; cases h
  | n, .scr _, h => by unfold D.shp at h; cases h
  | n, .fn _, h => by unfold D.shp at h; cases h
  | n, .ptp _, h => by unfold D.shp at h; cases h
  | n, .ndc _ _, h => by unfold D.shp at h; cases h
theorem shp_canL : ∀ (n : Nat) (ds : List D), D.shpL n ds = true → PyData.canLayAll0 (D.pyL ds) = true ∧ PyData.depthAll (D.pyL ds) ≤ n
  | n, [], _ => by simp [D.pyL, PyData.canLayAll0, PyData.depthAll]
  | n, d :: ds, h => by
    unfold D.shpL at h
    obtain ⟨h1, h2⟩ := Bool.and_eq_true_iff.mp h
    obtain ⟨k1, k2⟩ := shp_can n d h1
    obtain ⟨k3, k4⟩ := shp_canL n ds h2
    simp only [D.pyL, PyData.canLayAll0, PyData.depthAll]
    exact ⟨by rw [k1, k3]; rfl, Nat.max_le.mpr ⟨k2, k4⟩⟩
end
theorem shp_shaped {n : Nat} (hn : n ≤ 64) {d : D} (h : d.shp n = true) : SeqAt.shaped d.py = true := by
  obtain ⟨h1, h2⟩ := shp_can n d h
  unfold SeqAt.shaped
  rw [h1]
  simp only [Bool.true_and, decide_eq_true_eq]
  omega
mutual
theorem rep_dp {K : FragW} {H : Hp} : ∀ (n : Nat) (d : D) (v : V), d.shp n = true → Rep K H v d → Dp K H v d.py
  | _, .non, _, _, h => by cases h; simp only [D.py]; exact .non
  | _, .bl b, _, _, h => by cases h; simp only [D.py]; exact .bl b
  | _, .int i, _, _, h => by cases h; simp only [D.py]; exact .int i
  | _, .str s, _, _, h => by cases h; simp only [D.py]; exact .str _
  | 0, .lst l, _, hs, h => by unfold D.shp at hs; cases hs
  | n + 1, .lst l, _, hs, h => by
    unfold D.shp at hs
    cases h with
    | lst q r => simp only [D.py]; exact .lst (SqL.of q) (rep_dpL n l _ hs r)
  | 0, .tup l, _, hs, h => by unfold D.shp at hs; cases hs
  | n + 1, .tup l, _, hs, h => by
    unfold D.shp at hs
    cases h with
    | tup q r => simp only [D.py]; exact .tup (SqT.of q) (rep_dpL n l _ hs r)
  | _, .dic _ _, _, hs, _ => by unfold D.shp at hs; cases hs
  | _, .scr _, _, hs, _ => by unfold D.shp at hs; cases hs
  | _, .fn _, _, hs, _ => by unfold D.shp at hs; cases hs
  | _, .ptp _, _, hs, _ => by unfold D.shp at hs; cases hs
  | _, .ndc _ _, _, hs, _ => by unfold D.shp at hs; cases hs
theorem rep_dpL {K : FragW} {H : Hp} : ∀ (n : Nat) (ds : List D) (vs : List V), D.shpL n ds = true → RepL K H vs ds → DpAll K H vs (D.pyL ds)
  | _, [], _, _, h => by cases h; simp only [D.pyL]; exact .nil
  | n, d :: ds, _, hs, h => by
    unfold D.shpL at hs
    obtain ⟨h1, h2⟩ := Bool.and_eq_true_iff.mp hs
    cases h with
    | cons a b => simp only [D.pyL]; exact .cons (rep_dp n d _ h1 a) (rep_dpL n ds _ h2 b)
end
def scl : D → D → Bool
  | .non, .non => true
  | .non, .int _ => true
  | .int _, .non => true
  | .non, .bl _ => true
  | .bl _, .non => true
  | .non, .str _ => true
  | .str _, .non => true
  | .int _, .int _ => true
  | .bl _, .bl _ => true
  | .str _, .str _ => true
  | .int _, .str _ => true
  | .str _, .int _ => true
  | .bl _, .str _ => true
  | .str _, .bl _ => true
  | _, _ => false
def eqF : List D → Option D
  | [a, b] => if scl a b = true ∨ (a.shp 16 = true ∧ b.shp 16 = true) then some (.bl (a.eqv b)) else none
  | _ => none
def neF : List D → Option D
  | [a, b] => if scl a b = true ∨ (a.shp 16 = true ∧ b.shp 16 = true) then some (.bl (!a.eqv b)) else none
  | _ => none
theorem eqF_two : Two eqF := fun ds d h => by
  unfold eqF at h
  split at h <;> first | rfl | cases h
theorem neF_two : Two neF := fun ds d h => by
  unfold neF at h
  split at h <;> first | rfl | cases h
theorem eqF_boo : Boo eqF := fun ds d h => by
  unfold eqF at h
  split at h
  · split at h
    · cases h; exact ⟨_, rfl⟩
    · cases h
  · cases h
theorem neF_boo : Boo neF := fun ds d h => by
  unfold neF at h
  split at h
  · split at h
    · cases h; exact ⟨_, rfl⟩
    · cases h
  · cases h
theorem scl_eq {K : FragW} {G H : Hp} {x y : V} {a b : D} (r1 : RepT K G H x a) (r2 : RepT K G H y b) (h : scl a b = true) : scal x y = true ∧ decide (x = y) = a.eqv b := by
  cases r1 <;> cases r2 <;> first | (cases h; done) | (refine ⟨rfl, ?_⟩; simp [D.eqv]; done) | (refine ⟨rfl, ?_⟩; simp only [D.eqv]; rw [Bool.eq_iff_iff]; simp; done)
def rEqA (K : Frag) : R2 := fun x y H Q => rEq x y H Q ∨ rEqD K x y H Q
def rNeA (K : Frag) : R2 := fun x y H Q => rNe x y H Q ∨ rNeD K x y H Q
theorem op_eqA (hu : X.A.units + 64 < cLine) : OpR X (compareOp .Eq) (rEqA X.K) := op_eq.or (op_eqD hu)
theorem op_neA (hu : X.A.units + 64 < cLine) : OpR X (compareOp .NotEq) (rNeA X.K) := op_ne.or (op_neD hu)
theorem eqF_inv {ds : List D} {d : D} (h : eqF ds = some d) : ∃ a b, ds = [a, b] ∧ (scl a b = true ∨ (a.shp 16 = true ∧ b.shp 16 = true)) ∧ d = .bl (a.eqv b) := by
  unfold eqF at h
  split at h
  · rename_i a b
    by_cases hz : scl a b = true ∨ (a.shp 16 = true ∧ b.shp 16 = true)
    · rw [if_pos hz] at h
      exact ⟨a, b, rfl, hz, (Option.some.inj h).symm⟩
    · rw [if_neg hz] at h
      cases h
  · cases h
theorem neF_inv {ds : List D} {d : D} (h : neF ds = some d) : ∃ a b, ds = [a, b] ∧ (scl a b = true ∨ (a.shp 16 = true ∧ b.shp 16 = true)) ∧ d = .bl (!a.eqv b) := by
  unfold neF at h
  split at h
  · rename_i a b
    by_cases hz : scl a b = true ∨ (a.shp 16 = true ∧ b.shp 16 = true)
    · rw [if_pos hz] at h
      exact ⟨a, b, rfl, hz, (Option.some.inj h).symm⟩
    · rw [if_neg hz] at h
      cases h
  · cases h
theorem eqF_ok (hK : C.K.f = X.K) : Ok2 C (rEqA X.K) eqF := fun x y a b d G H Q s t r1 r2 e k => by
  obtain ⟨a', b', hq, hz, hd⟩ := eqF_inv e
  cases hq
  subst hd
  rcases hz with hz | ⟨h1, h2⟩
  · obtain ⟨k1, k2⟩ := scl_eq r1 r2 hz
    exact .inl ⟨k1, by rw [k2]; exact res_flat s t k (.bl _)⟩
  · refine .inr ⟨a.py, b.py, ?_, ?_, shp_shaped (by decide) h1, shp_shaped (by decide) h2, ?_⟩
    · rw [← hK]; exact rep_dp 16 a x h1 (r1.all s)
    · rw [← hK]; exact rep_dp 16 b y h2 (r2.all s)
    · rw [eqv_py]; exact res_flat s t k (.bl _)
theorem neF_ok (hK : C.K.f = X.K) : Ok2 C (rNeA X.K) neF := fun x y a b d G H Q s t r1 r2 e k => by
  obtain ⟨a', b', hq, hz, hd⟩ := neF_inv e
  cases hq
  subst hd
  rcases hz with hz | ⟨h1, h2⟩
  · obtain ⟨k1, k2⟩ := scl_eq r1 r2 hz
    exact .inl ⟨k1, by rw [k2]; exact res_flat s t k (.bl _)⟩
  · refine .inr ⟨a.py, b.py, ?_, ?_, shp_shaped (by decide) h1, shp_shaped (by decide) h2, ?_⟩
    · rw [← hK]; exact rep_dp 16 a x h1 (r1.all s)
    · rw [← hK]; exact rep_dp 16 b y h2 (r2.all s)
    · rw [eqv_py]; exact res_flat s t k (.bl _)
def isNF : List D → Option D
  | [.non, .non] => some (.bl true)
  | [_, .non] => some (.bl false)
  | _ => none
def notNF : List D → Option D
  | [.non, .non] => some (.bl false)
  | [_, .non] => some (.bl true)
  | _ => none
theorem isNF_two : Two isNF := fun ds d h => by
  unfold isNF at h
  split at h <;> first | rfl | cases h
theorem notNF_two : Two notNF := fun ds d h => by
  unfold notNF at h
  split at h <;> first | rfl | cases h
theorem notNF_boo : Boo notNF := fun ds d h => by
  unfold notNF at h
  split at h <;> first | (cases h; exact ⟨_, rfl⟩) | cases h
theorem isNF_ok : Ok2 C (fun x y H Q => y = .non ∧ Q (.bl (decide (x = .non))) H) isNF := fun x y a b d G H Q s t r1 r2 e k => by
  unfold isNF at e
  split at e
  · rename_i hq
    cases hq
    cases e
    cases r1
    cases r2
    exact ⟨rfl, res_flat s t k (.bl _)⟩
  · rename_i a' hn hq
    cases hq
    cases e
    cases r2
    refine ⟨rfl, ?_⟩
    have : decide (x = V.non) = false := by
      cases r1 <;> first | rfl | exact absurd rfl hn
    rw [this]
    exact res_flat s t k (.bl _)
  · cases e
theorem notNF_ok : Ok2 C (fun x y H Q => y = .non ∧ Q (.bl (!decide (x = .non))) H) notNF := fun x y a b d G H Q s t r1 r2 e k => by
  unfold notNF at e
  split at e
  · rename_i hq
    cases hq
    cases e
    cases r1
    cases r2
    exact ⟨rfl, res_flat s t k (.bl _)⟩
  · rename_i a' hn hq
    cases hq
    cases e
    cases r2
    refine ⟨rfl, ?_⟩
    have : decide (x = V.non) = false := by
      cases r1 <;> first | rfl | exact absurd rfl hn
    rw [this]
    exact res_flat s t k (.bl _)
  · cases e
def ixF : List D → Option D
  | [.lst l, .int i] => atI l i
  | [.tup l, .int i] => atI l i
  | [.scr l, .int i] => (atI l i).map D.int
  | [.str s, .int i] => if s.length ≤ 16000000 then (atI s i).map fun c => D.str [c] else none
  | _ => none
theorem ixF_two : Two ixF := fun ds d h => by
  unfold ixF at h
  split at h <;> first | rfl | cases h
theorem atI_rep {K : FragW} {G : Hp} {xs : List V} {ds : List D} {i : Int} {d : D} (r : RepL K G xs ds) (h : atI ds i = some d) : ∃ v, atI xs i = some v ∧ Rep K G v d := by
  unfold atI at h ⊢
  rw [r.length]
  cases q : ixN ds.length i with
  | none => rw [q] at h; cases h
  | some j =>
    rw [q] at h
    obtain ⟨v, h1, h2⟩ := r.getD (show ds[j]? = some d from h)
    exact ⟨v, h1, h2⟩
theorem ixF_ok (hK : C.K.f = X.K) : Ok2 C (rIx X.K) ixF := fun x y a b d G H Q s t r1 r2 e k => by
  unfold ixF at e
  split at e
  · rename_i l i hq
    cases hq
    cases r2
    cases r1 with
    | lst q rr =>
      obtain ⟨v, h1, h2⟩ := atI_rep rr e
      exact .inl ⟨_, _, i, v, rfl, rfl, SqL.of q, h1, res_flat s t k h2⟩
  · rename_i l i hq
    cases hq
    cases r2
    cases r1 with
    | tup g q rr =>
      obtain ⟨v, h1, h2⟩ := atI_rep rr e
      exact .inr (.inl ⟨_, _, i, v, rfl, rfl, SqT.of q, h1, res_flat s t k h2⟩)
  · rename_i l i hq
    cases hq
    cases r2
    cases r1 with
    | scr q =>
      cases z : atI l i with
      | none => rw [z] at e; cases e
      | some n =>
        rw [z] at e
        cases e
        refine .inl ⟨_, _, i, .int n, rfl, rfl, by rw [← hK]; exact q, ?_, res_flat s t k (.int n)⟩
        unfold atI at z ⊢
        rw [List.length_map]
        cases z2 : ixN l.length i with
        | none => rw [z2] at z; cases z
        | some j =>
          rw [z2] at z
          show (l.map V.int)[j]? = some (.int n)
          rw [List.getElem?_map, show l[j]? = some n from z]
          rfl
  · rename_i z i hq
    cases hq
    cases r2
    cases r1
    split at e
    · rename_i hz
      cases z2 : atI z i with
      | none => rw [z2] at e; cases e
      | some c =>
        rw [z2] at e
        cases e
        exact .inr (.inr ⟨_, i, c, rfl, rfl, by rw [strLen]; exact lim16 hz, by rw [strOf]; exact z2, res_flat s t k (.str [c])⟩)
    · cases e
  · cases e
def cutL {α : Type} (l : List α) (lo hi : Option Int) : List α := (l.drop (HT.sIx l.length 0 lo)).take (HT.sIx l.length l.length hi - HT.sIx l.length 0 lo)
def slF (d : D) (lo hi : Option Int) : Option D := match d with
  | .lst l => some (.lst (cutL l lo hi))
  | .str s => if s.length ≤ 16000000 then some (.str (cutL s lo hi)) else none
  | .tup l => some (.tup (cutL l lo hi))
  | _ => none
def sl1 (f : D → Option Int → Option Int → Option D) : List D → Option D
  | [d, .int i] => f d (some i) none
  | _ => none
def sl2 (f : D → Option Int → Option Int → Option D) : List D → Option D
  | [d, .int j] => f d none (some j)
  | _ => none
theorem getItem_tuple_whole {prog : Program} {w : World} {A : Around} {E : Value → Shared → Prop} {s : Shared} {t sl : Addr} {items : Array Value} {vl vu : Value} {lo hi : Option Int} {Q : Value → Shared → Prop} (ht : IsTup s.heap t items) (hs : s.heap.IsSliceOf sl vl vu .none) (pl : IsPart vl lo) (pu : IsPart vu hi)
    (hw : HT.sIx items.size 0 lo = 0 ∧ HT.sIx items.size items.size hi = items.size) (h : Q (.ref t) s) : wpAny (model prog w) A (getItem (.ref t) (.ref sl)) Q E s := by
  obtain ⟨os, hos, hcs, hds⟩ := id hs
  have hTs : s.TypeIs (.ref sl) "slice" := ⟨os, hos, hcs⟩
  unfold getItem
  try with_reducible refine wpAny_holding ?_
  first | refine wpAny_bind (wpAny_pure ?_) | skip
  refine wpAny_bind (wpAny_sequenceKey ht.typeIs (by decide) ?_)
  refine wpAny_bind (wpAny_callSpecial?_slot (name := Str.ofString "__getitem__") ht.typeIs PyProof.Rows.slot_tuple_getitem
    (wpAny_call_entry PyProof.Rows.slot_tuple_getitem ht.typeIs entry_tuple_getitem ?_ (args_tuple_getitem _ _)))
  show wpAny _ _ (Builtin.Tuple.tupleItemsOf (.ref t) >>= _) _ _ s
  refine wpAny_bind (tupleItemsOf_ ht ?_)
  refine wpAny_bind (wpAny_typeOf hTs ?_)
  rw [if_pos (by decide)]
  refine wpAny_bind (HT.sliceApplied_gen hs pl pu ?_)
  show wpAny _ _ (if (((HT.sIx items.size 0 lo : Nat) : Int) == 0 && (1 : Int) == 1 && (HT.sIx items.size items.size hi - HT.sIx items.size 0 lo) == items.size) = true then _ else _) _ _ s
  rw [if_pos (by rw [hw.1, hw.2]; simp)]
  show wpAny _ _ ((typeOf (.ref t) >>= fun ty => pure (ty == .type "tuple")) >>= _) _ _ s
  refine wpAny_bind (wpAny_bind (wpAny_typeOf ht.typeIs (wpAny_pure ?_)))
  rw [if_pos (by decide)]
  first
    | exact wpAny_bind (wpAny_rule (wpAny_pure ⟨_, rfl, wpAny_pure h⟩))
    | exact wpAny_bind (wpAny_rule (wpAny_bind (wpAny_pure (wpAny_pure ⟨_, rfl, wpAny_pure h⟩))))
    | (refine wpAny_bind (wpAny_rule ?_); trace_state; done)
def rSlW (K : Frag) : V → Option Int → Option Int → Hp → VK → Prop := fun x lo hi H Q => ∃ a xs, x = .ref a ∧ SqT K H a xs ∧ (HT.sIx xs.length 0 lo = 0 ∧ HT.sIx xs.length xs.length hi = xs.length) ∧ Q (.ref a) H
theorem sl_tupW : SlR X (rSlW X.K) := by
  intro pins s σ H x v vl vu lo hi sl Q I rx hs pl pu h
  obtain ⟨a, xs, rfl, hx, hw, q⟩ := h
  cases rx
  obtain ⟨its, r, ht, hz⟩ := I.tuple hx
  have hlen : its.toArray.size = xs.length := by rw [List.size_toArray]; exact r.length.symm
  refine ⟨"tuple", _, PyProof.Rows.slot_tuple_getitem.lookup, ht.typeIs, ?_⟩
  exact getItem_tuple_whole ht hs pl pu (by rw [hlen]; exact hw) ⟨.ref a, H, I, rfl, q⟩
def rSlA (K : Frag) : V → Option Int → Option Int → Hp → VK → Prop := fun x lo hi H Q => rSlL K x lo hi H Q ∨ (rSlT K x lo hi H Q ∨ rSlW K x lo hi H Q) ∨ rSlS x lo hi H Q
theorem sl_A : SlR X (rSlA X.K) := sl_list.or ((sl_tup.or sl_tupW).or sl_str)
theorem slF_ok (hK : C.K.f = X.K) {x : V} {d d' : D} {lo hi : Option Int} {G H : Hp} {Q : VK} (s : Same G H) (t : ∀ P ∈ C.tt, TabC C H P) (r : RepT C.K G H x d) (e : slF d lo hi = some d') (k : ∀ v G' H', Grow C G H G' H' → Rep C.K G' v d' → Q v H') : rSlA X.K x lo hi H Q := by
  unfold slF at e
  split at e
  · rename_i l
    cases e
    cases r with
    | lst q rr =>
      refine .inl ⟨_, _, rfl, SqL.of q, fun p hp => known_of_new s t k p _ hp (.lst ?_)⟩
      unfold cutV cutL
      rw [rr.length]
      exact (rr.drop _).take _
  · rename_i z
    split at e
    · rename_i hz
      cases e
      cases r
      refine .inr (.inr ⟨_, rfl, by rw [strLen]; exact lim16 hz, ?_⟩)
      have : cutS ⟨z.toArray⟩ lo hi = ⟨(cutL z lo hi).toArray⟩ := by
        unfold cutS cutL
        rw [strLen, strOf]
      rw [this]
      exact res_flat s t k (.str _)
    · cases e
  · rename_i l
    cases e
    cases r with
    | tup g q rr =>
      by_cases hw : HT.sIx l.length 0 lo = 0 ∧ HT.sIx l.length l.length hi = l.length
      · refine .inr (.inl (.inr ⟨_, _, rfl, SqT.of q, by rw [rr.length]; exact hw, ?_⟩))
        have e0 : cutL l lo hi = l := by
          unfold cutL
          rw [hw.1, hw.2, List.drop_zero, Nat.sub_zero, List.take_length]
        rw [e0] at k
        exact res_flat s t k (.tup g rr)
      · refine .inr (.inl (.inl ⟨_, _, rfl, SqT.of q, by rw [rr.length]; exact hw, fun p hp => ?_⟩))
        have gp := s.free hp
        refine k (.ref p) (upd G p (.tup _)) (upd H p (.tup _)) (grow_new s t hp) (.tup upd_same ?_)
        refine RepL.mono (fun b u hb => by rw [upd_ne (ne_of_none hb gp)]; exact hb) _ _ ?_
        unfold cutV cutL
        rw [rr.length]
        exact (rr.drop _).take _
  · cases e
variable {a b c : Expr} {x y z : Ex} {pos p2 : Pos}
theorem evs_cons {a : Ex} {as : List Ex} {e e' : Env'} {rs : List Rv} (h : evs (a :: as) e = some (rs, e')) : ∃ r e1 rs2, ev a e = some (r, e1) ∧ evs as e1 = some (rs2, e') ∧ rs = r :: rs2 := by
  unfold evs at h
  split at h
  · rename_i r e1 q1
    split at h
    · rename_i rs2 e2 q2
      cases h
      exact ⟨r, e1, rs2, q1, q2, rfl⟩
    · cases h
  · cases h
theorem evs_nil {e e' : Env'} {rs : List Rv} (h : evs [] e = some (rs, e')) : rs = [] ∧ e = e' := by
  unfold evs at h
  cases h
  exact ⟨rfl, rfl⟩
theorem gets_cons {e : Env'} {r : Rv} {rs : List Rv} {ds : List D} (h : gets e (r :: rs) = some ds) : ∃ d ds2, r.get e = some d ∧ gets e rs = some ds2 ∧ ds = d :: ds2 := by
  unfold gets at h
  split at h
  · rename_i d q
    split at h
    · rename_i ds2 q2
      cases h
      exact ⟨d, ds2, q, q2, rfl⟩
    · cases h
  · cases h
theorem gets_nil {e : Env'} {ds : List D} (h : gets e [] = some ds) : ds = [] := by
  unfold gets at h
  cases h
  rfl
theorem ev_two {f : List D → Option D} {e e' : Env'} {r : Rv} (h : ev (.op f [x, y]) e = some (r, e')) : ∃ ra e1 rb d1 d2 d, ev x e = some (ra, e1) ∧ ev y e1 = some (rb, e') ∧ ra.get e' = some d1 ∧ rb.get e' = some d2 ∧ f [d1, d2] = some d ∧ r = .pers d := by
  obtain ⟨rs, ds, d, q1, q2, q3, q4⟩ := ev_op h
  obtain ⟨ra, e1, rs2, h1, h2, rfl⟩ := evs_cons q1
  obtain ⟨rb, e2, rs3, h3, h4, rfl⟩ := evs_cons h2
  obtain ⟨rfl, rfl⟩ := evs_nil h4
  obtain ⟨d1, ds1, g1, g2, rfl⟩ := gets_cons q2
  obtain ⟨d2, ds2, g3, g4, rfl⟩ := gets_cons g2
  cases gets_nil g4
  exact ⟨ra, e1, rb, d1, d2, d, h1, h3, g1, g3, q3, q4⟩
theorem RepR.int {K : FragW} {G : Hp} {σ : St} {e e' : Env'} {r : Rv} {v : V} {i : Int} (h : RepR K G σ e r v) (g : r.get e' = some (.int i)) : v = .int i := by
  have := get_flat g rfl
  subst this
  cases h
  rfl
theorem ce_sl1 (hK : C.K.f = X.K) (ha : PE X a (tE C x)) (hb : PE X b (tE C y)) : PE X (.Subscript a (.Slice (some b) none none p2) pos) (tE C (.op (sl1 slF) [x, y])) := (pe_slice sl_A ha (po_some hb) po_none).imp fun σ H Q q => by
  obtain ⟨F, G0, G, pn, e, r, e', R, he, k⟩ := q
  obtain ⟨ra, e1, rb, d1, d2, d, h1, h2, g1, g2, hf, rfl⟩ := ev_two he
  unfold sl1 at hf
  split at hf
  · rename_i dd i hq
    cases hq
    refine ⟨F, G0, G, pn, e, ra, e1, R, h1, fun v G1 H1 R1 s1 r1 => ⟨F, G0, G1, pn, e1, rb, e', R1, h2, fun w G2 H2 R2 s2 r2 => ⟨i, r2.int g2, ?_⟩⟩⟩
    have rv := (r1.mono s2).env (ev_kept y _ _ _ h2).1
    exact slF_ok hK R2.gh R2.tabs (R2.get rv g1) hf fun v G' H' g rr => k v G' H' (R2.grow g) ((s1.trans s2).trans g.gg) rr
  · cases hf
theorem ce_sl2 (hK : C.K.f = X.K) (ha : PE X a (tE C x)) (hb : PE X b (tE C y)) : PE X (.Subscript a (.Slice none (some b) none p2) pos) (tE C (.op (sl2 slF) [x, y])) := (pe_slice sl_A ha po_none (po_some hb)).imp fun σ H Q q => by
  obtain ⟨F, G0, G, pn, e, r, e', R, he, k⟩ := q
  obtain ⟨ra, e1, rb, d1, d2, d, h1, h2, g1, g2, hf, rfl⟩ := ev_two he
  unfold sl2 at hf
  split at hf
  · rename_i dd i hq
    cases hq
    refine ⟨F, G0, G, pn, e, ra, e1, R, h1, fun v G1 H1 R1 s1 r1 => ⟨F, G0, G1, pn, e1, rb, e', R1, h2, fun w G2 H2 R2 s2 r2 => ⟨i, r2.int g2, ?_⟩⟩⟩
    have rv := (r1.mono s2).env (ev_kept y _ _ _ h2).1
    exact slF_ok hK R2.gh R2.tabs (R2.get rv g1) hf fun v G' H' g rr => k v G' H' (R2.grow g) ((s1.trans s2).trans g.gg) rr
  · cases hf
end
end Mi
namespace Mi
open PySem PySem.Spec PyProof.Rows L2 GxR
section
variable {X : Cx} {C : Cfg}
def lenF : List D → Option D
  | [.str s] => if s.length ≤ 16000000 then some (.int s.length) else none
  | [.lst l] => some (.int l.length)
  | [.tup l] => some (.int l.length)
  | [.scr l] => some (.int l.length)
  | _ => none
theorem lenF_ok (hK : C.K.f = X.K) : OkN C (fun xs H Q => ∃ x n, xs = [x] ∧ LenV X.K x H n ∧ Q (.int n) H) lenF := fun vs ds d G H Q s t r e k => by
  unfold lenF at e
  split at e
  · rename_i z
    split at e
    · rename_i hz
      cases e
      obtain ⟨v, rfl, rv⟩ := repTs_one r
      cases rv
      exact ⟨_, z.length, rfl, ⟨by rw [strLen]; exact lim16 hz, (strLen z).symm⟩, res_flat s t k (.int _)⟩
    · cases e
  · rename_i l
    cases e
    obtain ⟨v, rfl, rv⟩ := repTs_one r
    cases rv with
    | lst q rr => exact ⟨_, l.length, rfl, .inl ⟨_, SqL.of q, rr.length.symm⟩, res_flat s t k (.int _)⟩
  · rename_i l
    cases e
    obtain ⟨v, rfl, rv⟩ := repTs_one r
    cases rv with
    | tup g q rr => exact ⟨_, l.length, rfl, .inr ⟨_, SqT.of q, rr.length.symm⟩, res_flat s t k (.int _)⟩
  · rename_i l
    cases e
    obtain ⟨v, rfl, rv⟩ := repTs_one r
    cases rv with
    | scr q => exact ⟨_, l.length, rfl, .inl ⟨_, by rw [← hK]; exact q, (List.length_map ..).symm⟩, res_flat s t k (.int _)⟩
  · cases e
def intF : List D → Option D
  | [.int i] => some (.int i)
  | [.bl b] => some (.int (if b then 1 else 0))
  | _ => none
theorem intF_ok : OkN C (fun xs H Q => (∃ i, xs = [.int i] ∧ Q (.int i) H) ∨ ∃ k, xs = [.bl k] ∧ Q (.int (if k then 1 else 0)) H) intF := fun vs ds d G H Q s t r e k => by
  unfold intF at e
  split at e
  · cases e
    obtain ⟨v, rfl, rv⟩ := repTs_one r
    cases rv
    exact .inl ⟨_, rfl, res_flat s t k (.int _)⟩
  · cases e
    obtain ⟨v, rfl, rv⟩ := repTs_one r
    cases rv
    exact .inr ⟨_, rfl, res_flat s t k (.int _)⟩
  · cases e
def min2F : List D → Option D
  | [.int i, .int j] => some (.int (if j < i then j else i))
  | _ => none
theorem min2F_ok : OkN C (fun xs H Q => ∃ i j, xs = [.int i, .int j] ∧ Q (.int (if j < i then j else i)) H) min2F := fun vs ds d G H Q s t r e k => by
  unfold min2F at e
  split at e
  · cases e
    obtain ⟨v, w, rfl, rv, rw'⟩ := repTs_two r
    cases rv
    cases rw'
    exact ⟨_, _, rfl, res_flat s t k (.int _)⟩
  · cases e
def tupleF : List D → Option D
  | [.lst l] => some (.tup l)
  | [.tup l] => some (.tup l)
  | _ => none
theorem tupleF_ok : OkN C (fun xs H Q => ∃ p ys, xs = [.ref p] ∧ ((SqL X.K H p ys ∧ ∀ l, H l = none → Q (.ref l) (upd H l (.tup ys))) ∨ (SqT X.K H p ys ∧ Q (.ref p) H))) tupleF := fun vs ds d G H Q s t r e k => by
  unfold tupleF at e
  split at e
  · rename_i l
    cases e
    obtain ⟨v, rfl, rv⟩ := repTs_one r
    cases rv with
    | lst q rr =>
      refine ⟨_, _, rfl, .inl ⟨SqL.of q, fun p hp => ?_⟩⟩
      have gp := s.free hp
      exact k (.ref p) (upd G p (.tup _)) (upd H p (.tup _)) (grow_new s t hp) (.tup upd_same (rr.mono fun b u hb => by rw [upd_ne (ne_of_none hb gp)]; exact hb))
  · rename_i l
    cases e
    obtain ⟨v, rfl, rv⟩ := repTs_one r
    cases rv with
    | tup g q rr => exact ⟨_, _, rfl, .inr ⟨SqT.of q, res_flat s t k (.tup g rr)⟩⟩
  · cases e
def listF1 : List D → Option D
  | [.lst l] => some (.lst l)
  | [.tup l] => some (.lst l)
  | _ => none
theorem listF1_ok : OkNF C (fun xs H Q => ∃ p ys, xs = [.ref p] ∧ (SqL X.K H p ys ∨ SqT X.K H p ys) ∧ ∀ l, H l = none → Q (.ref l) (upd H l (.lst ys))) listF1 := fun vs ds d G H Q s t r e k => by
  unfold listF1 at e
  split at e
  · cases e
    obtain ⟨v, rfl, rv⟩ := repTs_one r
    cases rv with
    | lst q rr => exact ⟨_, _, rfl, .inl (SqL.of q), fun p hp => k p _ hp (.lst rr)⟩
  · cases e
    obtain ⟨v, rfl, rv⟩ := repTs_one r
    cases rv with
    | tup g q rr => exact ⟨_, _, rfl, .inr (SqT.of q), fun p hp => k p _ hp (.lst rr)⟩
  · cases e
def lstF : List D → Option D := fun ds => if ds.length ≤ 16000000 then some (.lst ds) else none
def tupF1 : List D → Option D := fun ds => if ds.length ≤ 16000000 then some (.tup ds) else none
theorem lstF_ok : OkMF C (fun xs H Q => xs.length ≤ sizeLine ∧ ∀ p, H p = none → Q (.ref p) (upd H p (.lst xs))) lstF := fun vs ds d G H Q s t r e k => by
  unfold lstF at e
  split at e
  · rename_i hz
    cases e
    exact ⟨by rw [r.length]; exact lim16 hz, fun p hp => k p _ hp (.lst r)⟩
  · cases e
theorem tupF1_ok : OkM C (fun xs H Q => xs.length ≤ sizeLine ∧ ∀ p, H p = none → Q (.ref p) (upd H p (.tup xs))) tupF1 := fun vs ds d G H Q s t r e k => by
  unfold tupF1 at e
  split at e
  · rename_i hz
    cases e
    refine ⟨by rw [r.length]; exact lim16 hz, fun p hp => ?_⟩
    have gp := s.free hp
    exact k (.ref p) (upd G p (.tup _)) (upd H p (.tup _)) (grow_new s t hp) (.tup upd_same (r.mono fun b u hb => by rw [upd_ne (ne_of_none hb gp)]; exact hb))
  · cases e
variable {es : List Expr} {xs : List Ex} {a b c o : Expr} {x y z : Ex} {pos p apos : Pos}
theorem ce_tup {n : Nat} (h : PA X es (tA C xs)) : PE X (.Tuple es n pos) (tE C (.mk tupF1 xs)) := (pe_tup h).imp fun σ H Q q => tE_mk tupF1_ok q
theorem cf_lst (h : PA X es (tA C xs)) : PE X (.List es pos) (tF C (.mk lstF xs)) := (pe_lst h).imp fun σ H Q q => tF_mk lstF_ok q
theorem ce_lst (h : PA X es (tA C xs)) : PE X (.List es pos) (tE C (.mk lstF xs)) := cf_ce (cf_lst h) mk_pers
theorem cf_op {a : Expr} {f : List D → Option D} (h : PE X a (tF C (.op f xs))) : PE X a (tE C (.op f xs)) := cf_ce h op_pers
theorem cf_lcE {a : Expr} {g : List D → Option (List D)} {vs : List Nat} {tg : Tg} {cs : List Ex} (h : PE X a (tF C (.lc g xs vs tg cs x))) : PE X a (tE C (.lc g xs vs tg cs x)) := cf_ce h lc_pers
def D.ty : D → String
  | .non => "NoneType"
  | .bl _ => "bool"
  | .int _ => "int"
  | .str _ => "str"
  | .tup _ => "tuple"
  | .lst _ => "list"
  | .scr _ => "list"
  | .fn _ => "function"
  | .ptp _ => "tuple"
  | .ndc _ _ => "dict"
  | .dic _ _ => "dict"
inductive Ty where
  | int | str | bool | tuple | list | dict
def Ty.nm : Ty → String
  | .int => "int"
  | .str => "str"
  | .bool => "bool"
  | .tuple => "tuple"
  | .list => "list"
  | .dict => "dict"
def isT (d : D) : Ty → Bool
  | .int => (match d with
    | .int _ => true
    | .bl _ => true
    | _ => false)
  | .bool => (match d with
    | .bl _ => true
    | _ => false)
  | .str => (match d with
    | .str _ => true
    | _ => false)
  | .tuple => (match d with
    | .tup _ => true
    | .ptp _ => true
    | _ => false)
  | .list => (match d with
    | .lst _ => true
    | .scr _ => true
    | _ => false)
  | .dict => (match d with
    | .dic _ _ => true
    | .ndc _ _ => true
    | _ => false)
def isiF (ts : List Ty) : List D → Option D
  | [.dic (.non :: _) _] => none
  | [.fn _] => none
  | [.ptp _] => none
  | [.ndc _ _] => none
  | [d] => some (.bl (ts.any fun t => isT d t))
  | _ => none
theorem isiF_inv {ts : List Ty} {d0 d : D} (h : isiF ts [d0] = some d) : d = .bl (ts.any fun t => isT d0 t) ∧ (∀ ks vs, d0 ≠ .dic (.non :: ks) vs) ∧ (∀ n, d0 ≠ .fn n) ∧ (∀ l, d0 ≠ .ptp l) ∧ ∀ ks vs, d0 ≠ .ndc ks vs := by
  unfold isiF at h
  split at h
  · cases h
  · cases h
  · cases h
  · cases h
  · rename_i e1 e3 e4 e5 e2
    cases e2
    cases h
    exact ⟨rfl, fun ks vs z => e1 ks vs (by rw [z]), fun n z => e3 n (by rw [z]), fun n z => e4 n (by rw [z]), fun ks vs z => e5 ks vs (by rw [z])⟩
  · rename_i e1 e3 e4 e2
    exact absurd rfl (e2 _)
theorem kitOf (d : D) (t : Ty) : kitB d.ty t.nm = some (isT d t) := by
  cases d <;> cases t <;> first | decide +kernel | rfl
theorem tyx_sql {K : Frag} {H : Hp} {a : Addr} {xs : List V} (h : SqL K H a xs) : TyX K H (.ref a) (.type "list") := by
  rcases h with (h | ⟨o, h⟩) | ⟨o, its, n, h1, h2, _⟩
  · exact .base (.lst h)
  · exact .base (.frz h)
  · exact .kList h1 h2
theorem tyx_of {K : FragW} {G H : Hp} {v : V} {d : D} (r : RepT K G H v d) (hd : (∀ ks vs, d ≠ .dic (.non :: ks) vs) ∧ (∀ n, d ≠ .fn n) ∧ (∀ l, d ≠ .ptp l) ∧ ∀ ks vs, d ≠ .ndc ks vs) : TyX K H v (.type d.ty) := by
  cases r with
  | non => exact .base .non
  | bl b => exact .base (.bl b)
  | int i => exact .base (.int i)
  | str s => exact .base (.str _)
  | tup g q rr => exact .base (.tup q)
  | lst q rr => exact .base (.lst q)
  | scr q => exact tyx_sql q
  | fn n => exact absurd rfl (hd.2.1 n)
  | ptp g q e r => exact absurd rfl (hd.2.2.1 _)
  | ndc q e r m t r2 => exact absurd rfl (hd.2.2.2 _ _)
  | dK q e rr =>
    rcases q with q | ⟨o, q⟩
    · exact .base (.dK q)
    · exact .fDict q
  | dT q e rr => exact absurd (by rw [e]) (hd.1 _ _)
theorem ce_isi (hK : C.K.f = X.K) {T : Ty} (h : ∀ {te : TE}, PE X a te → PE X o (tCB (rIsi X.K) (tCons te (tCons (tC (.ty T.nm)) tNil)))) (ha : PE X a (tE C x)) : PE X o (tE C (.op (isiF [T]) [x])) := (h ha).imp fun σ H Q q => by
  obtain ⟨F, G0, G, pn, e, r, e', R, he, k⟩ := q
  obtain ⟨rs, ds, d, q1, q2, q3, rfl⟩ := ev_op he
  obtain ⟨r1, e1, rs2, h1, h2, rfl⟩ := evs_cons q1
  obtain ⟨rfl, rfl⟩ := evs_nil h2
  obtain ⟨d1, ds1, g1, g2, rfl⟩ := gets_cons q2
  cases gets_nil g2
  obtain ⟨rfl, hd⟩ := isiF_inv q3
  refine ⟨F, G0, G, pn, e, r1, _, R, h1, fun v G1 H1 R1 s1 rv => ?_⟩
  refine ⟨v, .ty T.nm, .type d1.ty, .type T.nm, isT d1 T, rfl, .ty _, ?_, kit_ty (kitOf d1 T), ?_⟩
  · rw [← hK]; exact tyx_of (R1.get rv g1) hd
  · have := k (.bl _) G1 H1 R1 s1 (.bl _)
    simpa using this
theorem get_str {r : Rv} {K : FragW} {G : Hp} {σ : St} {e e' : Env'} {v : V} {s : List Nat} (h : RepR K G σ e r v) (g : r.get e' = some (.str s)) : v = .str ⟨s.toArray⟩ := by
  have := get_flat g rfl
  subst this
  cases h
  rfl
theorem ce_strm {r : V → List V → Hp → VK → Prop} {f : List D → Option D} (ok : OkN C (fun vs H Q => ∃ v us, vs = v :: us ∧ r v us H Q) f) (hf : ∀ ds d, f ds = some d → ∃ s ds2, ds = .str s :: ds2)
    (h : ∀ {te : TE} {t : TA}, PE X o te → PA X es t → PE X c (tBM X.K "str" r te t)) (ho : PE X o (tE C x)) (ha : PA X es (tA C xs)) : PE X c (tE C (.op f (x :: xs))) := (h ho ha).imp fun σ H Q q => by
  have q0 := q
  obtain ⟨F, G0, G, pn, e, rr, e', R, he, k⟩ := q
  obtain ⟨rs, ds, d, q1, q2, q3, rfl⟩ := ev_op he
  obtain ⟨r1, e1, rs2, h1, h2, rfl⟩ := evs_cons q1
  obtain ⟨d1, ds1, g1, g2, rfl⟩ := gets_cons q2
  obtain ⟨s, ds2, z⟩ := hf _ _ q3
  cases z
  refine ⟨F, G0, G, pn, e, r1, e1, R, h1, fun v G1 H1 R1 s1 rv => ?_⟩
  have hv := get_str rv g1
  subst hv
  refine ⟨rfl, F, G0, G1, pn, e1, rs2, e', R1, h2, fun us G2 H2 R2 s2 ru => ?_⟩
  obtain ⟨v, us', e3, h3⟩ := ok (.str ⟨s.toArray⟩ :: us) (.str s :: ds1) d G2 H2 Q R2.gh R2.tabs (.cons (.str s) (R2.gets ru g2)) q3 fun v G3 H3 g rw' => k v G3 H3 (R2.grow g) ((s1.trans s2).trans g.gg) rw'
  cases e3
  exact h3
def strsOf : List D → Option (List (List Nat))
  | [] => some []
  | .str s :: ds => (strsOf ds).map fun l => s :: l
  | _ :: _ => none
theorem strsOf_map : ∀ {ds : List D} {l : List (List Nat)}, strsOf ds = some l → ds = l.map D.str
  | [], l, h => by cases h; rfl
  | .str s :: ds, l, h => by
    unfold strsOf at h
    cases q : strsOf ds with
    | none => rw [q] at h; cases h
    | some m =>
      rw [q] at h
      cases h
      rw [strsOf_map q] <;> rfl
  | .non :: ds, l, h => by unfold strsOf at h; cases h
  | .bl _ :: ds, l, h => by unfold strsOf at h; cases h
  | .int _ :: ds, l, h => by unfold strsOf at h; cases h
  | .tup _ :: ds, l, h => by unfold strsOf at h; cases h
  | .lst _ :: ds, l, h => by unfold strsOf at h; cases h
  | .dic _ _ :: ds, l, h => by unfold strsOf at h; cases h
  | .scr _ :: ds, l, h => by unfold strsOf at h; cases h
  | .fn _ :: ds, l, h => by unfold strsOf at h; cases h
  | .ptp _ :: ds, l, h => by unfold strsOf at h; cases h
  | .ndc _ _ :: ds, l, h => by unfold strsOf at h; cases h
def joinL' (sep : List Nat) : List (List Nat) → List Nat
  | [] => []
  | [p] => p
  | p :: q :: r => p ++ (sep ++ joinL' sep (q :: r))
def joinF : List D → Option D
  | [.str sep, .lst l] => (match strsOf l with
    | some ss => if (ss.map List.length).sum + ss.length * sep.length ≤ 16000000 then some (.str (joinL' sep ss)) else none
    | none => none)
  | [.str sep, .tup l] => (match strsOf l with
    | some ss => if (ss.map List.length).sum + ss.length * sep.length ≤ 16000000 then some (.str (joinL' sep ss)) else none
    | none => none)
  | _ => none
theorem join_is (sep : List Nat) (ss : List (List Nat)) : Txt.join ⟨sep.toArray⟩ (ss.map fun s => (⟨s.toArray⟩ : Str)) = ⟨(joinL' sep ss).toArray⟩ := by
  rw [TL.join_eq]
  have h : TL.tl (Str.join ⟨sep.toArray⟩ (ss.map fun s => (⟨s.toArray⟩ : Str))) = joinL' sep ss := by
    rw [TL.tl_join]
    have e : (ss.map fun s => (⟨s.toArray⟩ : Str)).map TL.tl = ss := by
      rw [List.map_map]
      have : (TL.tl ∘ fun (s : List Nat) => (⟨s.toArray⟩ : Str)) = id := by
        funext s
        exact strOf s
      rw [this, List.map_id]
    have e3 : TL.tl (⟨sep.toArray⟩ : Str) = sep := strOf sep
    rw [e, e3]
    have : ∀ l : List (List Nat), TL.joinL sep l = joinL' sep l := by
      intro l
      induction l with
      | nil => rfl
      | cons p l ih =>
        cases l with
        | nil => rfl
        | cons q r =>
          show p ++ (sep ++ TL.joinL sep (q :: r)) = p ++ (sep ++ joinL' sep (q :: r))
          rw [ih]
    exact this ss
  generalize Str.join ⟨sep.toArray⟩ (ss.map fun s => (⟨s.toArray⟩ : Str)) = z at h ⊢
  obtain ⟨c⟩ := z
  have h2 : c.toList = joinL' sep ss := h
  rw [← h2]
theorem sum_len (ss : List (List Nat)) : ((ss.map fun s => (⟨s.toArray⟩ : Str)).map (·.length)).sum = (ss.map List.length).sum := by
  rw [List.map_map]
  exact congrArg List.sum (List.map_congr_left fun s _ => strLen s)
theorem joinF_str : ∀ ds d, joinF ds = some d → ∃ s ds2, ds = .str s :: ds2 := fun ds d h => by
  unfold joinF at h
  split at h
  · exact ⟨_, _, rfl⟩
  · exact ⟨_, _, rfl⟩
  · cases h
theorem joinF_ok (hK : C.K.f = X.K) : OkN C (fun vs H Q => ∃ v us, vs = v :: us ∧ (∃ a p, ∃ ys : List Str, v = .str a ∧ us = [.ref p] ∧ (SqL X.K H p (ys.map V.str) ∨ SqT X.K H p (ys.map V.str)) ∧
    (ys.map (·.length)).sum + ys.length * a.length ≤ 16777216 ∧ Q (.str (Txt.join a ys)) H)) joinF := fun vs ds d G H Q s t r e k => by
  unfold joinF at e
  split at e
  · rename_i sep l
    split at e
    · rename_i ss hs
      split at e
      · rename_i hz
        cases e
        obtain ⟨v, w, rfl, rv, rw'⟩ := repTs_two r
        cases rv
        cases rw' with
        | lst q rr =>
          rw [strsOf_map hs] at rr
          refine ⟨_, _, rfl, _, _, ss.map fun s => ⟨s.toArray⟩, rfl, rfl, .inl (SqL.of (by rw [q, rr.strs])), ?_, ?_⟩
          · rw [sum_len, List.length_map, strLen]; omega
          · rw [join_is]; exact res_flat s t k (.str _)
      · cases e
    · cases e
  · rename_i sep l
    split at e
    · rename_i ss hs
      split at e
      · rename_i hz
        cases e
        obtain ⟨v, w, rfl, rv, rw'⟩ := repTs_two r
        cases rv
        cases rw' with
        | tup g q rr =>
          rw [strsOf_map hs] at rr
          refine ⟨_, _, rfl, _, _, ss.map fun s => ⟨s.toArray⟩, rfl, rfl, .inr (SqT.of (by rw [q, rr.strs])), ?_, ?_⟩
          · rw [sum_len, List.length_map, strLen]; omega
          · rw [join_is]; exact res_flat s t k (.str _)
      · cases e
    · cases e
  · cases e
def rfindA (c : Nat) : List Nat → Nat → Int → Int
  | [], _, acc => acc
  | a :: s, i, acc => rfindA c s (i + 1) (if a = c then (i : Int) else acc)
def rfindL (s : List Nat) (c : Nat) : Int := rfindA c s 0 (-1)
def findA (c : Nat) : List Nat → Nat → Int
  | [], _ => -1
  | a :: s, i => if a = c then (i : Int) else findA c s (i + 1)
def findL (s : List Nat) (c : Nat) : Int := findA c s 0
theorem at_one (s : List Nat) (c i : Nat) : PySem.StrLaws.At (⟨s.toArray⟩ : Str) ⟨#[c]⟩ (⟨s.toArray⟩ : Str).length i ↔ s[i]? = some c := by
  rw [TL.at_iff (y := ⟨#[c]⟩) (by simp)]
  unfold TL.pre
  have e3 : TL.tl (⟨s.toArray⟩ : Str) = s := strOf s
  rw [e3]
  have e : ((s.drop i).take 1 == [c]) = true ↔ s[i]? = some c := by
    have h : s[i]? = (s.drop i)[0]? := by rw [List.getElem?_drop]; rfl
    rw [h]
    cases q : s.drop i with
    | nil => simp
    | cons a b => simp
  exact e
theorem rfindA_spec (c : Nat) : ∀ (s : List Nat) (i : Nat) (acc : Int), ((∀ j : Nat, s[j]? ≠ some c) ∧ rfindA c s i acc = acc) ∨ ∃ j : Nat, s[j]? = some c ∧ (∀ k : Nat, j < k → s[k]? ≠ some c) ∧ rfindA c s i acc = ((i + j : Nat) : Int)
  | [], i, acc => .inl ⟨fun j => by simp, rfl⟩
  | a :: s, i, acc => by
    unfold rfindA
    rcases rfindA_spec c s (i + 1) (if a = c then (i : Int) else acc) with ⟨h1, h2⟩ | ⟨j, h1, h2, h3⟩
    · by_cases hc : a = c
      · rw [if_pos hc] at h2 ⊢
        refine .inr ⟨0, by simp [hc], fun k hk => ?_, by rw [h2]; rfl⟩
        cases k with
        | zero => exact absurd hk (Nat.lt_irrefl 0)
        | succ k => exact h1 k
      · rw [if_neg hc] at h2 ⊢
        refine .inl ⟨fun j => ?_, h2⟩
        cases j with
        | zero => simpa using hc
        | succ j => exact h1 j
    · refine .inr ⟨j + 1, h1, fun k hk => ?_, by rw [h3]; congr 1; omega⟩
      cases k with
      | zero => exact absurd hk (Nat.not_lt_zero _)
      | succ k => exact h2 k (by omega)
theorem rfind_is (s : List Nat) (c : Nat) : Txt.rfind ⟨s.toArray⟩ ⟨#[c]⟩ = rfindL s c := by
  unfold Txt.rfind rfindL
  rcases StrLaws.last_spec ⟨s.toArray⟩ ⟨#[c]⟩ with ⟨h1, h2⟩ | ⟨i, h1, h2, h3⟩
  · rw [h1]
    rcases rfindA_spec c s 0 (-1) with ⟨_, k2⟩ | ⟨j, k1, _⟩
    · exact k2.symm
    · exact absurd ((at_one s c j).mpr k1) (h2 j)
  · rw [h1]
    have e1 := (at_one s c i).mp h2
    rcases rfindA_spec c s 0 (-1) with ⟨k1, _⟩ | ⟨j, k1, k2, k3⟩
    · exact absurd e1 (k1 i)
    · have : i = j := by
        rcases Nat.lt_trichotomy i j with z | z | z
        · exact absurd ((at_one s c j).mpr k1) (h3 j z)
        · exact z
        · exact absurd e1 (k2 i z)
      rw [k3, this]
      show (j : Int) = ((0 + j : Nat) : Int)
      rw [Nat.zero_add]
theorem count_none (s : List Nat) (c : Nat) (h : ∀ k : Nat, s[k]? ≠ some c) : s.count c = 0 := by
  rw [List.count_eq_zero]
  intro hm
  obtain ⟨k, hk, e⟩ := List.mem_iff_getElem.mp hm
  exact h k (by rw [List.getElem?_eq_getElem hk, e])
theorem chain_count (s : List Nat) (c : Nat) : ∀ (cuts : List Nat) (a f : Nat), StrLaws.ChainG ⟨s.toArray⟩ ⟨#[c]⟩ (⟨s.toArray⟩ : Str).length a cuts f → (∀ k, f ≤ k → ¬ StrLaws.At ⟨s.toArray⟩ ⟨#[c]⟩ (⟨s.toArray⟩ : Str).length k) → cuts.length = (s.drop a).count c
  | [], a, f, h, hn => by
    have e : f = a := h
    subst e
    refine (count_none _ c fun k => ?_).symm
    rw [List.getElem?_drop]
    exact fun z => hn (f + k) (Nat.le_add_right _ _) ((at_one s c _).mpr z)
  | c0 :: r, a, f, h, hn => by
    obtain ⟨h1, h2, h3, h4⟩ := h
    have ih := chain_count s c r (c0 + 1) f h4 hn
    have e2 := (at_one s c c0).mp h2
    have hlt : c0 < s.length := (List.getElem?_eq_some_iff.mp e2).1
    have e3 : s.drop a = (s.drop a).take (c0 - a) ++ (c :: s.drop (c0 + 1)) := by
      have e4 : (s.drop a).drop (c0 - a) = c :: s.drop (c0 + 1) := by
        rw [List.drop_drop, show a + (c0 - a) = c0 by omega, List.drop_eq_getElem_cons hlt]
        congr 1
        exact (List.getElem?_eq_some_iff.mp e2).2
      rw [← e4, List.take_append_drop]
    have e5 : ((s.drop a).take (c0 - a)).count c = 0 := count_none _ c fun k => by
      by_cases hk : k < c0 - a
      · rw [List.getElem?_take_of_lt hk, List.getElem?_drop]
        exact fun z => h3 (a + k) (by omega) (by omega) ((at_one s c _).mpr z)
      · rw [List.getElem?_eq_none (by rw [List.length_take]; omega)]
        exact fun z => nomatch z
    rw [e3, List.count_append, e5, List.count_cons_self, ← ih, List.length_cons]
    omega
theorem count_is (s : List Nat) (c : Nat) : Txt.count ⟨s.toArray⟩ ⟨#[c]⟩ = (s.count c : Nat) := by
  unfold Txt.count
  obtain ⟨f, h1, h2⟩ := StrLaws.occ_tight ⟨s.toArray⟩ ⟨#[c]⟩ (by show 1 ≤ 1; exact Nat.le_refl 1)
  rw [chain_count s c _ 0 f h1 h2]
  rfl
def rfindF : List D → Option D
  | [.str s, .str [c]] => some (.int (rfindL s c))
  | _ => none
def countF : List D → Option D
  | [.str s, .str [c]] => some (.int (s.count c : Nat))
  | _ => none
theorem rfindF_str : ∀ ds d, rfindF ds = some d → ∃ s ds2, ds = .str s :: ds2 := fun ds d h => by
  unfold rfindF at h
  split at h
  · exact ⟨_, _, rfl⟩
  · cases h
theorem countF_str : ∀ ds d, countF ds = some d → ∃ s ds2, ds = .str s :: ds2 := fun ds d h => by
  unfold countF at h
  split at h
  · exact ⟨_, _, rfl⟩
  · cases h
theorem rfindF_ok : OkN C (fun vs H Q => ∃ v us, vs = v :: us ∧ (∃ a b, v = .str a ∧ us = [.str b] ∧ Q (.int (Txt.rfind a b)) H)) rfindF := fun vs ds d G H Q s t r e k => by
  unfold rfindF at e
  split at e
  · rename_i z c
    cases e
    obtain ⟨v, w, rfl, rv, rw'⟩ := repTs_two r
    cases rv
    cases rw'
    exact ⟨_, _, rfl, _, _, rfl, rfl, by rw [rfind_is]; exact res_flat s t k (.int _)⟩
  · cases e
theorem countF_ok : OkN C (fun vs H Q => ∃ v us, vs = v :: us ∧ (∃ a b, v = .str a ∧ us = [.str b] ∧ Q (.int (Txt.count a b)) H)) countF := fun vs ds d G H Q s t r e k => by
  unfold countF at e
  split at e
  · rename_i z c
    cases e
    obtain ⟨v, w, rfl, rv, rw'⟩ := repTs_two r
    cases rv
    cases rw'
    exact ⟨_, _, rfl, _, _, rfl, rfl, by rw [count_is]; exact res_flat s t k (.int _)⟩
  · cases e
def D.flt : D → Bool
  | .non => true
  | .bl _ => true
  | .int _ => true
  | .str _ => true
  | _ => false
def memF (neg : Bool) : List D → Option D
  | [.str [c], .str s] => some (.bl (neg != s.contains c))
  | [x, .lst l] => if x.shp 16 = true ∧ (D.lst l).shp 16 = true then some (.bl (neg != l.any fun y => y.eqv x)) else none
  | [x, .tup l] => if x.flt = true ∧ l.all D.flt = true then some (.bl (neg != l.any fun y => y.eqv x)) else none
  | _ => none
theorem memF_two {n : Bool} : Two (memF n) := fun ds d h => by
  unfold memF at h
  split at h <;> first | rfl | cases h
theorem memF_boo {n : Bool} : Boo (memF n) := fun ds d h => by
  unfold memF at h
  split at h
  · cases h; exact ⟨_, rfl⟩
  · split at h
    · cases h; exact ⟨_, rfl⟩
    · cases h
  · split at h
    · cases h; exact ⟨_, rfl⟩
    · cases h
  · cases h
end
end Mi
namespace Mi
open PySem PySem.Spec PyProof.Rows L2 GxR
section
variable {X : Cx} {C : Cfg} {F G0 G G' H H' : Hp} {pn : Pn} {σ : St} {e e' : Env'} {v : V} {d : D} {a b c o : Expr} {x y z : Ex} {xs : List Ex} {es : List Expr} {pos p p2 : Pos}
theorem opImp {f : Value → Value → Sem Value} {r r' : R2} (h : OpR X f r) (k : ∀ x y H Q, r' x y H Q → r x y H Q) : OpR X f r' := fun pins s σ H x y v u Q I rx ry q => h pins s σ H x y v u Q I rx ry (k _ _ _ _ q)
def rMem (K : Frag) (neg : Bool) : R2 := fun x y H Q => (∃ (c : Nat) (z : Str), x = .str ⟨#[c]⟩ ∧ y = .str z ∧ Q (.bl (neg != decide (c ∈ z.cps.toList))) H) ∨ (∃ d ds, Dp K H x d ∧ Dp K H y (.list ds) ∧ SeqAt.shaped d = true ∧ SeqAt.shaped (.list ds) = true ∧ Q (.bl (neg != ds.any fun z => PyData.eqv z d)) H) ∨ rIn K neg x y H Q
theorem op_inA (hu : X.A.units + 65 < cLine) : OpR X (compareOp .In) (rMem X.K false) := opImp (op_in_sign.or ((op_inD hu).or op_in_seq)) fun _ _ _ _ h => by
  rcases h with ⟨c, z, h1, h2, q⟩ | ⟨d, ds, h1, h2, h3, h4, q⟩ | h
  · exact .inl ⟨c, z, h1, h2, by simpa using q⟩
  · exact .inr (.inl ⟨d, ds, h1, h2, h3, h4, by simpa using q⟩)
  · exact .inr (.inr h)
theorem any_py (x : D) : ∀ l : List D, (D.pyL l).any (fun z => PyData.eqv z x.py) = l.any fun y => y.eqv x
  | [] => by simp [D.pyL]
  | y :: l => by simp only [D.pyL, List.any_cons]; rw [eqv_py, any_py x l]
theorem flt_V {K : FragW} {G : Hp} {v : V} {d : D} (r : Rep K G v d) (h : d.flt = true) : flatV v = true := by
  cases r <;> first | rfl | cases h
theorem flt_eq {K : FragW} {G G' : Hp} {v w : V} {d e : D} (r : Rep K G v d) (h : d.flt = true) (r' : Rep K G' w e) (h' : e.flt = true) : eqV v w = d.eqv e := by
  cases r <;> cases r' <;> first | (cases h; done) | (cases h'; done) | (simp [D.eqv, eqV]; done) | (simp only [D.eqv, eqV]; rw [Bool.eq_iff_iff]; simp; done)
theorem flt_all {K : FragW} {G G' : Hp} {w : V} {e : D} (r' : Rep K G' w e) (h' : e.flt = true) : ∀ {vs : List V} {ds : List D}, RepL K G vs ds → ds.all D.flt = true → vs.all flatV = true ∧ inV w vs = ds.any fun y => y.eqv e
  | _, _, .nil, _ => ⟨rfl, rfl⟩
  | _, _, .cons a b, h => by
    rw [List.all_cons, Bool.and_eq_true] at h
    obtain ⟨h1, h2⟩ := flt_all r' h' b h.2
    refine ⟨by rw [List.all_cons, flt_V a h.1, h1]; rfl, ?_⟩
    unfold inV at h2 ⊢
    rw [List.any_cons, List.any_cons, h2, flt_eq a h.1 r' h']
theorem memF_inv {n : Bool} {ds : List D} {d : D} (h : memF n ds = some d) : (∃ c s, ds = [.str [c], .str s] ∧ d = .bl (n != s.contains c)) ∨ (∃ x l, ds = [x, .lst l] ∧ x.shp 16 = true ∧ (D.lst l).shp 16 = true ∧ d = .bl (n != l.any fun y => y.eqv x)) ∨
    (∃ x l, ds = [x, .tup l] ∧ x.flt = true ∧ l.all D.flt = true ∧ d = .bl (n != l.any fun y => y.eqv x)) := by
  unfold memF at h
  split at h
  · rename_i c s
    cases h
    exact .inl ⟨c, s, rfl, rfl⟩
  · rename_i x l
    split at h
    · rename_i hz
      cases h
      exact .inr (.inl ⟨x, l, rfl, hz.1, hz.2, rfl⟩)
    · cases h
  · rename_i x l
    split at h
    · rename_i hz
      cases h
      exact .inr (.inr ⟨x, l, rfl, hz.1, hz.2, rfl⟩)
    · cases h
  · cases h
theorem memF_ok {n : Bool} (hK : C.K.f = X.K) : Ok2 C (rMem X.K n) (memF n) := fun x y a b d G H Q s t r1 r2 e k => by
  rcases memF_inv e with ⟨c, z, hq, rfl⟩ | ⟨x', l, hq, h1, h2, rfl⟩ | ⟨x', l, hq, h1, h2, rfl⟩
  · cases hq
    cases r1
    cases r2
    refine .inl ⟨c, _, rfl, rfl, ?_⟩
    have e2 : decide (c ∈ (⟨z.toArray⟩ : Str).cps.toList) = z.contains c := by
      simp [List.contains_iff_mem]
    rw [e2]
    exact res_flat s t k (.bl _)
  · cases hq
    refine .inr (.inl ⟨a.py, D.pyL l, ?_, ?_, shp_shaped (by decide) h1, shp_shaped (by decide) h2, ?_⟩)
    · rw [← hK]; exact rep_dp 16 a x h1 (r1.all s)
    · rw [← hK]
      have := rep_dp 16 (.lst l) y h2 (r2.all s)
      simpa only [D.py] using this
    · rw [any_py]; exact res_flat s t k (.bl _)
  · cases hq
    cases r2 with
    | tup g q r =>
      rename_i ad ys
      have rx : Rep C.K H x a := r1.all s
      obtain ⟨k1, k2⟩ := flt_all rx h1 r h2
      refine .inr (.inr ⟨_, ys, rfl, .inr (SqT.of q), flt_V rx h1, k1, ?_⟩)
      rw [k2]
      have e3 : (if n = true then !(l.any fun y => y.eqv a) else l.any fun y => y.eqv a) = (n != l.any fun y => y.eqv a) := by cases n <;> simp
      rw [e3]
      exact res_flat s t k (.bl _)
theorem ce_globI {nm : Str} {i : Int} (hg : Gl X nm) (hm : ∃ t, X.mg nm = some (.int i t)) (hd : (nm == ("__debug__" : Str)) = false := by decide) : PE X (.Name nm pos) (tE C (.cst (.int i))) := by
  obtain ⟨t, ht⟩ := hm
  exact ce_c (v := .int i) (pe_glob (v := .int i) hg ht ⟨t, rfl⟩ hd) fun _ => .int i
theorem elt_in {prog : Program} {w : World} {scope : Scope} {x k : Str} {j : Nat} {p1 p2 p3 : Pos} (hk : scope.kind = .function) (hl : scope.names.lookup x = some .local) (hd : (x == ("__debug__" : Str)) = false := by decide) :
    EltP prog w scope x (.Compare (.Name x p1) [.In] [.Constant (.str k) j p2] p3) (fun c => decide (c ∈ k.cps.toList)) := by
  intro cenv A' E' c t s₂ m₂ hs hn hm
  refine wpAny_Compare1 ?_
  refine wpAny_Name (wpAny_loadName_local (by rw [hs]; exact hk) (show cenv.scope.names.lookup x = some .local by rw [hs]; exact hl) hn hm ?_) hd
  refine Calls.Constant_str ?_
  refine PyProof.Rows.in_str ?_
  exact ⟨congrArg Value.bool (PySem.StrLaws.found_one k c), keeps_tok _ _⟩
def allF (pb : Nat → Bool) : List D → Option D
  | [.str s] => some (.bl (s.all pb))
  | _ => none
theorem grow_tab {P : Addr} {G H1 H2 : Hp} (gh : Same G H1) (tb : ∀ P ∈ C.tt, TabC C H1 P) (hP : C.gt P) (gP : G P = none) (ht : Tabbed P H1 H2) : Grow C G H1 G H2 := by
  refine ⟨Same.refl G, fun b u h => ?_, fun q hq hqt => ht.2 q (fun z => hqt (by rw [z]; exact hP.1)), fun _ _ _ => rfl, fun P' hP' => ?_⟩
  · rw [ht.2 b (fun z => by rw [z, gP] at h; cases h)]
    exact gh b u h
  · by_cases z : P' = P
    · rw [z]; exact ⟨ht.1, fun q hq => absurd hq (hP.2 q)⟩
    · refine (tb P' hP').keep (ht.2 P' z) fun c φ e => ?_
      obtain ⟨⟨ps, e2, _⟩, _⟩ := tb P hP.1
      rw [ht.2 c (fun z => by rw [z, e2] at e; unfold LamX.CodeO at e; cases e)]; exact e
theorem ce_allS {P : Addr} {pb : Nat → Bool} (h : ∀ {te : TE}, PE X a te → PE X o (tAllS P pb te)) (hP : C.gt P) (ha : PE X a (tE C x)) : PE X o (tE C (.op (allF pb) [x])) := (h ha).imp fun σ H Q q => by
  obtain ⟨F, G0, G, pn, e, r, e', R, he, k⟩ := q
  obtain ⟨rs, ds, d, q1, q2, q3, rfl⟩ := ev_op he
  obtain ⟨r1, e1, rs2, h1, h2, rfl⟩ := evs_cons q1
  obtain ⟨rfl, rfl⟩ := evs_nil h2
  obtain ⟨d1, ds1, g1, g2, rfl⟩ := gets_cons q2
  cases gets_nil g2
  unfold allF at q3
  split at q3
  · rename_i s hs
    cases hs
    cases q3
    refine ⟨F, G0, G, pn, e, r1, _, R, h1, fun v G1 H1 R1 s1 rv => ⟨⟨s.toArray⟩, get_str rv g1, (R1.tb P hP.1).1.1, fun H2 ht => ?_⟩⟩
    have := k (.bl (s.all pb)) G1 H2 (R1.grow (grow_tab R1.gh R1.tabs hP (R1.tb P hP.1).2.1 ht)) s1 (.bl _)
    simpa using this
  · cases q3
theorem piOr {tg it : Expr} {t t' : TI} (h : PI X tg it t) (h' : PI X tg it t') : PI X tg it (fun σ H R => t σ H R ∨ t' σ H R) := ⟨fun pins s σ H R I q => q.elim (h.run pins s σ H R I) (h'.run pins s σ H R I)⟩
theorem ci_any {tg : Expr} (hK : C.K.f = X.K) (ha : PE X a (tE C x)) : PI X tg a (tI C itemsF [x]) := (piOr (ci_list hK ha) (piOr (ci_tup hK ha) (ci_str ha))).imp fun σ H R q => by
  obtain ⟨F, G0, G, pn, e, rs, e1, ds, e2, items, R', q1, q2, q3, k⟩ := q
  unfold itemsF at q3
  split at q3
  · exact .inl ⟨F, G0, G, pn, e, rs, e1, _, e2, items, R', q1, q2, q3, k⟩
  · exact .inr (.inl ⟨F, G0, G, pn, e, rs, e1, _, e2, items, R', q1, q2, q3, k⟩)
  · exact .inr (.inr ⟨F, G0, G, pn, e, rs, e1, _, e2, items, R', q1, q2, q3, k⟩)
  · cases q3
theorem blkE {N N2 : List Str} {sc sc2 scope : Scope} {own : List (Str × Nat)} (hN : N = N2) (hs : sc = sc2) (h : BlkOk N2 sc2 scope own) : BlkOk N sc scope own := by
  rw [hN, hs]; exact h
theorem hu65 {k : Nat} {A : Around} (hr : Room k A) : A.units + 65 < cLine := by have := hr.un; omega
theorem genS_of {env : Env} {scope : Scope} {x : Str} (h1 : scope.kind = .function) (h2 : scope.isCoroutine = false) (h3 : ∀ y ∈ scope.names, y.2 ≠ .cell) (h4 : scope.names.lookup (".0" : Str) = some NameKind.local) (h5 : scope.names.lookup x = some .local)
    (h6 : ∀ y ∈ scope.names, y.2 ≠ .free) : GenS env scope x := ⟨h1, h2, h3, h4, h5, fun y hy e => absurd e (h6 y hy)⟩
theorem fnI_none {P : Program} {w : World} {K : Frag} {mg : Str → Option Value} {base : Heap} {f : Addr} {fd : FuncData} {ps : List Str} {k n : Nat} : FnOk P w K mg base CX0 k f fd ps (spI C n fun _ => none) := by
  refine ⟨fun vs H Q E h => ?_, fun A outer s H args us vs Q E _ _ _ _ h => ?_⟩
  · obtain ⟨_, _, _, _, _, _, _, z, _⟩ := h
    cases z
  · obtain ⟨_, _, _, _, _, _, _, z, _⟩ := h
    cases z
variable {elt tgx iter : Expr} {ifs : List Expr} {scope : Scope} {own : List (Str × Nat)} {g : List D → Option (List D)} {tg : Tg} {cs : List Ex} {spos py : Pos} {i : Nat} {nm : Str}
theorem cs_setLc (hc : X.calm = true) (hN : X.N.Nodup) (hy : X.N[i]? = some nm) (hyl : X.env.scope.names.lookup nm = some .local) (hsw : swapsWith (.ListComp elt [⟨tgx, iter, ifs, 0⟩] scope pos) (some (.Name nm py)) spos.line X.env = pure true) (hi : PI X tgx iter (tI C g xs)) (ok : BlkOk X.N X.env.scope scope own)
    (hg : ∀ (s : Shared) (H : Hp) (Cc : Addr) (cl : List (Str × Addr)) (fp : List Addr), PG (X.blk s H scope (compEnvC scope cl Cc X.env) fp) tgx (tG C tg)) (ht : ∀ (s : Shared) (H : Hp) (Cc : Addr) (cl : List (Str × Addr)) (fp : List Addr), PTs (X.blk s H scope (compEnvC scope cl Cc X.env) fp) ifs (tTs C cs))
    (he : ∀ (s : Shared) (H : Hp) (Cc : Addr) (cl : List (Str × Addr)) (fp : List Addr), PE (X.blk s H scope (compEnvC scope cl Cc X.env) fp) elt (tE C x)) (hsl : (tg.slots.all fun i => (own.map (·.2)).contains i) = true) (hs : ∀ x, foldedSetIterable iter X.env x = pure x := by intro _; rfl) :
    PS X (.Assign [.Name nm py] (.ListComp elt [⟨tgx, iter, ifs, 0⟩] scope pos) spos) (tS C (.set (.nm i) (.lc g xs (own.map (·.2)) tg cs x))) := (ps_setLc hc hN hy hyl hsw hi ok hg ht he hs).imp fun D σ H q => set_of (fun _ _ _ h => tLc_of (fun i hi => by
  have := List.all_eq_true.mp hsl i hi
  exact List.contains_iff_mem.mp this) (tF_tE h lc_pers)) gName_of q
end
end Mi
namespace Mi
open PySem PySem.Spec PyProof.Rows L2 GxR
theorem tc_of {K : Frag} {nm qual : Str} {params : Arguments} {body : List Stmt} {scope : Scope} {fd' : FuncData} (F : FunD K nm qual params body scope [] [] (He.ga K nm) fd') :
    ∀ (oc : Value) (od : Option Addr) (osl : Array (Option Value)) (fd : FuncData), K.lookup (He.ga K nm) = some ⟨oc, od, .func fd, osl⟩ → fd.code = .ref (He.codeOf K (nm, none)) := by
  obtain ⟨oc0, od0, dV, kV, doc, pm, an, cdv, ct, osl0, rfl, lk, hcd, _, _⟩ := F.ex
  intro oc od osl fd h
  rw [lk] at h
  cases h
  obtain ⟨c, e⟩ := He.codeIn_ref hcd
  rw [He.codeOf_eq (p := (nm, none)) lk e]
  exact e
theorem law_at {l : PySem.W.OpenLaw} {w : World} {K : Frag} {h : Heap} {mg : Str → Option Value} {fa : List He.Fa} {fn : List He.DefD} {ts : List He.Tab} {tf : List He.Defn} {exb : Frag → Bool} {k : Nat} {x : Str} {f : Addr} {fd : FuncData} {φ : List D → Option D} (ls : List (He.Defn × Str))
    {nm qual : Str} {params : Arguments} {body : List Stmt} {scope : Scope} {Fx : Heap → Prop}
    (c : He.SaysX fa fn ts tf exb w h K) (KX : K.In h) (F : FunD K nm qual params body scope [] [] f fd) (hb : ∀ (s : Shared) (u : Value), BindsTo s fd ⟨[u], []⟩ [(x, u)])
    (hZ : ∀ base : Heap, (∀ p ∈ tf.map (He.cT K), TabB base mg p.1 p.2) → Fx base)
    (hF : ∀ base : Heap, Fx base → FnOk l.prog w K mg base CX0 k f fd [x] (spI ⟨⟨K, l.prog, w⟩, (tf.map (He.cT K)).map (·.2), ls.map fun q => ((He.cT K q.1).2, q.2)⟩ 1 φ)) (hl : ∀ ns : List Int, ns.length ≤ 63 → (∀ z ∈ ns, Builtin.Int.intBits z ≤ 1048576) → φ [.scr ns] = some (.bl true)) :
    LamX.LawAtS l w K CX0 k 63 x mg f h := by
  have mem : ∀ p ∈ tf.map (He.cT K), ∃ q ∈ tf, He.cT K q = p := fun p hp => List.mem_map.mp hp
  refine ⟨fd, tf.map (He.cT K), spI ⟨⟨K, l.prog, w⟩, (tf.map (He.cT K)).map (·.2), ls.map fun q => ((He.cT K q.1).2, q.2)⟩ 1 φ, fun p hp => ?_, fun p hp => ?_, fun p hp => ?_, hb, ?_, fun base _ _ hT => hF base (hZ base fun p hp => ⟨(hT p hp).code, (hT p hp).bm, (hT p hp).gP⟩)⟩
  · obtain ⟨q, hq, rfl⟩ := mem p hp
    exact c.empty q hq
  · obtain ⟨q, hq, rfl⟩ := mem p hp
    exact c.out q hq
  · obtain ⟨q, hq, rfl⟩ := mem p hp
    exact PySem.W.codeHd_of_K KX (c.hd q hq)
  · intro H a ns hlen hbits hH hS
    have tab : ∀ P ∈ (tf.map (He.cT K)).map (·.2), H P = some (.tbl #[]) := fun P hP => by
      obtain ⟨p, hp, rfl⟩ := List.mem_map.mp hP
      exact hH p hp
    let G : Hp := fun b => if b ∈ (tf.map (He.cT K)).map (·.2) then none else H b
    have gn : ∀ {b : Addr}, b ∉ (tf.map (He.cT K)).map (·.2) → G b = H b := fun hb => if_neg hb
    have gt : ∀ {b : Addr}, b ∈ (tf.map (He.cT K)).map (·.2) → G b = none := fun hb => if_pos hb
    refine ⟨G, [.scr ns], .bl true, rfl, fun b o e => ?_, fun P hP => ⟨⟨⟨#[], tab P hP, trivial⟩, fun q _ => LamX.TabS.nil (tab P hP)⟩, gt hP⟩, .cons (.scr ?_) .nil, hl ns hlen hbits, fun v G' H' _ r => by cases r; rfl⟩
    · by_cases hb : b ∈ (tf.map (He.cT K)).map (·.2)
      · rw [gt hb] at e; cases e
      · rw [gn hb] at e; exact e
    · rcases hS with (hS | ⟨o, hS⟩) | hS
      · exact .inl (.inl (by rw [gn (fun z => by rw [tab a z] at hS; cases hS)]; exact hS))
      · exact .inl (.inr ⟨o, by rw [gn (fun z => by rw [tab a z] at hS; cases hS)]; exact hS⟩)
      · exact .inr hS
end Mi
namespace Mi
open PySem PySem.Spec PyProof.Rows L2 GxR
theorem atI_nat {α : Type} (l : List α) (i : Nat) : atI l (i : Int) = l[i]? := by
  unfold atI ixN
  rw [if_pos (Int.natCast_nonneg i)]
  by_cases h : i < l.length
  · rw [if_pos (Int.ofNat_lt.mpr h)]
    simp
  · rw [if_neg (by omega)]
    rw [List.getElem?_eq_none (by omega)]
    rfl
theorem atI_pos {α : Type} {l : List α} {i : Int} (h0 : 0 ≤ i) (h1 : i < l.length) : atI l i = some (l[i.toNat]'(by omega)) := by
  obtain ⟨n, rfl⟩ := Int.eq_ofNat_of_zero_le h0
  show atI l (n : Int) = _
  rw [atI_nat, List.getElem?_eq_getElem (by omega)]
  rfl
theorem cut_to {α : Type} (l : List α) (n : Nat) (h : n ≤ l.length) : cutL l none (some (n : Int)) = l.take n := by
  unfold cutL
  have e1 : HT.sIx l.length 0 none = 0 := rfl
  have e2 : HT.sIx l.length l.length (some (n : Int)) = n := by
    rw [HT.sIx_nat]; omega
  rw [e1, e2, List.drop_zero, Nat.sub_zero]
theorem cut_from {α : Type} (l : List α) (n : Nat) : cutL l (some (n : Int)) none = l.drop n := by
  unfold cutL
  have e1 : HT.sIx l.length l.length none = l.length := rfl
  have e2 : HT.sIx l.length 0 (some (n : Int)) = min n l.length := HT.sIx_nat _ _ _
  rw [e1, e2]
  by_cases h : n ≤ l.length
  · rw [Nat.min_eq_left h, List.take_of_length_le (by rw [List.length_drop]; exact Nat.le_refl _)]
  · rw [Nat.min_eq_right (by omega), List.drop_eq_nil_of_le (Nat.le_refl _), List.drop_eq_nil_of_le (by omega), List.take_nil]
end Mi
namespace Mi
open PySem PySem.Spec PyProof.Rows L2 GxR
mutual
def D.same : D → D → Bool
  | .bl _, .bl _ => true
  | .int _, .int _ => true
  | .str _, .str _ => true
  | .tup xs, .tup ys => D.sameL xs ys
  | .lst xs, .lst ys => D.sameL xs ys
  | _, _ => false
def D.sameL : List D → List D → Bool
  | [], [] => true
  | x :: xs, y :: ys => D.same x y && D.sameL xs ys
  | _, _ => false
end
mutual
theorem same_alike : ∀ (x a b : D), x.same a = true → x.same b = true → W.alike a.py b.py = true
  | .bl _, a, b, h1, h2 => by
    cases a <;> first | (simp [D.same] at h1; done) | skip
    cases b <;> first | (simp [D.same] at h2; done) | skip
    simp [D.py, W.alike]
  | .int _, a, b, h1, h2 => by
    cases a <;> first | (simp [D.same] at h1; done) | skip
    cases b <;> first | (simp [D.same] at h2; done) | skip
    simp [D.py, W.alike]
  | .str _, a, b, h1, h2 => by
    cases a <;> first | (simp [D.same] at h1; done) | skip
    cases b <;> first | (simp [D.same] at h2; done) | skip
    simp [D.py, W.alike]
  | .tup xs, a, b, h1, h2 => by
    cases a <;> first | (simp [D.same] at h1; done) | skip
    cases b <;> first | (simp [D.same] at h2; done) | skip
    rename_i as bs
    simp only [D.same] at h1 h2
    simp only [D.py, W.alike]
    exact same_alikeL xs as bs h1 h2
  | .lst xs, a, b, h1, h2 => by
    cases a <;> first | (simp [D.same] at h1; done) | skip
    cases b <;> first | (simp [D.same] at h2; done) | skip
    rename_i as bs
    simp only [D.same] at h1 h2
    simp only [D.py, W.alike]
    exact same_alikeL xs as bs h1 h2
  | .non, a, b, h1, _ => by cases a <;> simp [D.same] at h1
  | .dic _ _, a, b, h1, _ => by cases a <;> simp [D.same] at h1
  | .scr _, a, b, h1, _ => by cases a <;> simp [D.same] at h1
  | .fn _, a, b, h1, _ => by cases a <;> simp [D.same] at h1
  | .ptp _, a, b, h1, _ => by cases a <;> simp [D.same] at h1
  | .ndc _ _, a, b, h1, _ => by cases a <;> simp [D.same] at h1
theorem same_alikeL : ∀ (xs as bs : List D), D.sameL xs as = true → D.sameL xs bs = true → W.alikeAll (D.pyL as) (D.pyL bs) = true
  | [], as, bs, h1, h2 => by
    cases as <;> first | (simp [D.sameL] at h1; done) | skip
    cases bs <;> first | (simp [D.sameL] at h2; done) | skip
    simp [D.pyL, W.alikeAll]
  | x :: xs, as, bs, h1, h2 => by
    cases as <;> first | (simp [D.sameL] at h1; done) | skip
    cases bs <;> first | (simp [D.sameL] at h2; done) | skip
    rename_i a as b bs
    simp only [D.sameL, Bool.and_eq_true] at h1 h2
    simp only [D.pyL, W.alikeAll, Bool.and_eq_true]
    exact ⟨same_alike x a b h1.1 h2.1, same_alikeL xs as bs h1.2 h2.2⟩
end
def dle (a b : D) : Bool := W.dataLe false D.py a b
section
variable {prog : Program} {w : World} {A : Around} {E : Value → Shared → Prop} {s : Shared} {β : Type} {R : Value → β → Prop} {enc : β → PyData} {vs : List Value} {bs : List β}
end
section
variable {X : Cx} {C : Cfg}
theorem repL_zip {K : FragW} {G : Hp} : ∀ {xs : List V} {ds : List D}, RepL K G xs ds → (xs.zip ds).map (·.1) = xs ∧ (xs.zip ds).map (·.2) = ds ∧ ∀ p ∈ xs.zip ds, Rep K G p.1 p.2
  | _, _, .nil => ⟨rfl, rfl, fun p hp => by simp at hp⟩
  | _, _, .cons a b => by
    obtain ⟨h1, h2, h3⟩ := repL_zip b
    refine ⟨by simp [h1], by simp [h2], fun p hp => ?_⟩
    rw [List.zip_cons_cons] at hp
    rcases List.mem_cons.mp hp with rfl | hp
    · exact a
    · exact h3 p hp
end
end Mi
namespace Mi
open PySem PySem.Spec PyProof.Rows L2 GxR
inductive Src where
  | lst (a : Addr) (xs : List V)
  | tup (a : Addr) (xs : List V)
  | txt (x : Str)
def Src.vals : Src → List V
  | .lst _ xs => xs
  | .tup _ xs => xs
  | .txt x => x.cps.toList.map fun c => V.str ⟨#[c]⟩
def Src.v : Src → V
  | .lst a _ => .ref a
  | .tup a _ => .ref a
  | .txt x => .str x
def Src.ok (H : Hp) : Src → Prop
  | .lst a xs => H a = some (.lst xs)
  | .tup a xs => H a = some (.tup xs)
  | .txt _ => True
def Src.at (h : Heap) (it : Addr) (i : Nat) : Src → Prop
  | .lst a _ => h.IsListIter it a i
  | .tup a _ => h.IsTupleIter it a i
  | .txt x => ∃ t, h.IsStrIter it (strIterType x) x t i
theorem Src.ok.mono {H H' : Hp} (s : Same H H') : ∀ {z : Src}, z.ok H → z.ok H'
  | .lst _ _, h => s _ _ h
  | .tup _ _, h => s _ _ h
  | .txt _, h => h
theorem Src.at.obj {h : Heap} {it : Addr} {i : Nat} : ∀ {z : Src}, z.at h it i → ∃ o, h.get? it = some o ∧ ∀ v, o.data ≠ .cell v
  | .lst _ _, ⟨o, e, _, d⟩ => ⟨o, e, fun v z => by rw [d] at z; cases z⟩
  | .tup _ _, ⟨o, e, _, d⟩ => ⟨o, e, fun v z => by rw [d] at z; cases z⟩
  | .txt _, ⟨_, o, e, _, d⟩ => ⟨o, e, fun v z => by rw [d] at z; cases z⟩
theorem Src.at.keep {h h' : Heap} {it : Addr} {i : Nat} (k : ∀ o, h.get? it = some o → h'.get? it = some o) : ∀ {z : Src}, z.at h it i → z.at h' it i
  | .lst _ _, ⟨o, e, r⟩ => ⟨o, k o e, r⟩
  | .tup _ _, ⟨o, e, r⟩ => ⟨o, k o e, r⟩
  | .txt _, ⟨t, o, e, r⟩ => ⟨t, o, k o e, r⟩
theorem valsBack : ∀ {xs : List V} {us : List Value} {j : Nat} {u : Value}, Vals xs us → us[j]? = some u → ∃ x, xs[j]? = some x ∧ RelV x u
  | _, _, _, _, .nil, e => by simp at e
  | _, _, 0, _, .cons r _, e => by
    have e' := Option.some.inj (show some _ = some _ from e)
    subst e'
    exact ⟨_, rfl, r⟩
  | _, _, j + 1, _, .cons _ t, e => valsBack (j := j) t (by simpa using e)
section
variable {X : Cx} {pins : List (Addr × Obj)} {σ : L2.St} {H : Hp} {s : Shared}
theorem draws_of (I : Inv X pins σ H s) (hh : X.A.handled = none) {z : Src} (hz : z.ok H) {it : Addr} {i : Nat} (hi : H it = none) (st : z.at s.heap it i) :
    ∃ (fp : List Addr) (P : Nat → Value → Prop) (Z : Nat → Heap → Prop), PySem.Draws X.prog X.w X.A.in1 it fp z.vals.length P Z ∧ Z i s.heap ∧ (∀ j h, Z j h → z.at h it j) ∧ (∀ j v, P j v → ∃ x, z.vals[j]? = some x ∧ RelV x v) ∧
      it ∈ fp ∧ ∀ b ∈ fp, b = it ∨ H b ≠ none := by
  cases z with
  | lst a xs =>
    have hz : H a = some (.lst xs) := hz
    obtain ⟨its, rv, p, _⟩ := I.list (SqL.of hz)
    have hne : a ≠ it := fun e => by rw [e, hi] at hz; cases hz
    have hl := rv.length
    have D := PySem.Draws.list (prog := X.prog) (w := X.w) (A := X.A.in1) hh it a hne its.toArray
    rw [show its.toArray.size = (Src.lst a xs).vals.length by simp [Src.vals, hl]] at D
    refine ⟨_, _, _, D, ⟨st, p.isList⟩, fun j h q => q.1, fun j v q => ?_, by simp, fun b hb => ?_⟩
    · have q' : its[j]? = some v := by simpa using q
      exact valsBack rv q'
    · rcases List.mem_cons.mp hb with rfl | hb
      · exact .inl rfl
      · rw [List.mem_singleton.mp hb]
        exact .inr (by rw [hz]; simp)
  | tup a xs =>
    have hz : H a = some (.tup xs) := hz
    obtain ⟨its, rv, p, _⟩ := I.tuple (SqT.of hz)
    have hne : a ≠ it := fun e => by rw [e, hi] at hz; cases hz
    have hl := rv.length
    have D := PySem.Draws.tuple (prog := X.prog) (w := X.w) (A := X.A.in1) hh it a hne its.toArray
    rw [show its.toArray.size = (Src.tup a xs).vals.length by simp [Src.vals, hl]] at D
    refine ⟨_, _, _, D, ⟨st, p⟩, fun j h q => q.1, fun j v q => ?_, by simp, fun b hb => ?_⟩
    · have q' : its[j]? = some v := by simpa using q
      exact valsBack rv q'
    · rcases List.mem_cons.mp hb with rfl | hb
      · exact .inl rfl
      · rw [List.mem_singleton.mp hb]
        exact .inr (by rw [hz]; simp)
  | txt x =>
    obtain ⟨t, st⟩ := st
    have D := PySem.Draws.text (prog := X.prog) (w := X.w) (A := X.A.in1) hh it x t
    rw [show x.cps.size = (Src.txt x).vals.length by simp [Src.vals]] at D
    refine ⟨_, _, _, D, st, fun j h q => ⟨t, q⟩, fun j v q => ?_, by simp, fun b hb => .inl (by simpa using hb)⟩
    obtain ⟨c, u, h1, rfl⟩ := q
    refine ⟨.str ⟨#[c]⟩, ?_, ⟨u, rfl⟩⟩
    show (x.cps.toList.map fun c => V.str ⟨#[c]⟩)[j]? = _
    rw [List.getElem?_map, Array.getElem?_toList, h1]
    rfl
def ItP (n : Nat) (ok : Hp → Prop) (vs : Nat → List V) : It :=
  ⟨fun i H => i < n ∧ ok H, fun i H v H' => ∃ T, v = .ref T ∧ H T = none ∧ H' = upd H T (.tup (vs i)), fun i H => i = n ∧ ok H⟩
theorem turn_of {P : Program} {w : World} {K : Frag} {elts : List Expr} {kk : Nat} {tpos : Pos} {n : Nat} {ok : Hp → Prop} {vs : Nat → List V} {own : List Addr} {it : Addr} {tn : Nat → Heap → Prop} (hmem : it ∈ own) (hvs : ∀ i, (vs i).length ≤ 16)
    (hobj : ∀ i h, tn i h → ∀ b ∈ own, ∃ o, h.get? b = some o ∧ ∀ v, o.data ≠ .cell v) (hkeep : ∀ i h h', tn i h → (∀ b ∈ own, ∀ o, h.get? b = some o → h'.get? b = some o) → tn i h')
    (hself : ∀ (A : Around) (i : Nat) (s : Shared) (Q : Value → Shared → Prop) (E : Value → Shared → Prop), tn i s.heap → Q (.ref it) s → wpAny (model P w) A (pyIter (.ref it)) Q E s)
    (hW : ∀ (X : Cx), X.prog = P → X.w = w → X.K = K → X.calm = true → ∀ (i : Nat) (pins : List (Addr × Obj)) (s : Shared) (σ : L2.St) (H : Hp), Inv X pins σ H s → (∀ b ∈ own, FpOk X pins H b) → tn i s.heap → ok H →
      ∃ (fp wr : List Addr) (Pt : Nat → Array Value → Prop) (Z : Nat → Heap → Prop) (Mid : Nat → Addr → Heap → Prop), WalksT P w X.A it fp wr n Pt Z Mid ∧ Z i s.heap ∧ (∀ b ∈ wr, b ∈ own) ∧ (∀ j vals, Pt j vals → ∃ its : List Value, vals = its.toArray ∧ Vals (vs j) its) ∧
        ∀ j h, Z j h → (∀ b ∈ own, b ∉ wr → ∀ o, s.heap.get? b = some o → h.get? b = some o) → tn j h) :
    Turn P w K (.Tuple elts kk tpos) (ItP n ok vs) own it tn where
  mem := hmem
  obj := hobj
  keep := hkeep
  item := by
    intro X hP hw hK hc i pins s σ H E I hf st hg
    obtain ⟨fp, wr, Pt, Z, Mid, W, hZ, hwr, hPt, htn⟩ := hW X hP hw hK hc i pins s σ H I hf st hg.2
    refine W.item i s _ _ hg.1 hZ fun T vals h' tk hv hsz hT hM hk => ?_
    refine ⟨_, rfl, W.go elts kk tpos i T _ _ _ hM fun h2 hZ2 hk2 => ?_⟩
    obtain ⟨its, rfl, rv⟩ := hPt i vals hv
    have hTw := W.apart i T _ hM
    obtain ⟨o, ho, hoc, hod⟩ := hT
    have hT2 : IsTup h2 T its.toArray := ⟨o, hk2 T o hTw ho, hoc, hod⟩
    have kk2 : ∀ b ob, b ∉ wr → s.heap.get? b = some ob → h2.get? b = some ob := fun b ob hb e => hk2 b ob hb (hk b ob hb e)
    subst hP hw
    have new : ObjOk X.prog X.w (upd H T (.tup (vs i))) h2 T (.tup (vs i)) := ⟨Nat.le_trans (hvs i) (by rw [sizeLine_eq]; omega), its, rv, hT2⟩
    have I2 : Inv X pins σ (upd H T (.tup (vs i))) { s with heap := h2, toks := tk } := I.turnedNew (ch := wr) kk2 (fun b hb => hf b (hwr b hb)) hsz new
    refine ⟨.ref T, _, I2, rfl, ⟨T, rfl, I.hok.fresh hsz, rfl⟩, htn (i + 1) h2 hZ2 fun b _ hb o e => kk2 b o hb e, fun b hb => ?_⟩
    obtain ⟨ob, hob, _⟩ := hobj i s.heap st b hb
    have hlt := Heap.lt_size hob
    rw [upd_ne (Nat.ne_of_lt (Nat.lt_of_lt_of_le hlt hsz))]
    exact (hf b hb).1
  done := by
    intro X hP hw hK hc i pins s σ H E I hf st hg
    obtain ⟨fp, wr, Pt, Z, Mid, W, hZ, hwr, hPt, htn⟩ := hW X hP hw hK hc i pins s σ H I hf st hg.2
    rw [hg.1] at hZ
    subst hP hw
    exact W.done s _ _ hZ fun h' tk hk => ⟨rfl, I.turnedL (ch := wr) hk fun b hb => hf b (hwr b hb)⟩
  self := hself
theorem turn_en {P : Program} {w : World} {K : Frag} {elts : List Expr} {kk : Nat} {tpos : Pos} (z : Src) (e it : Addr) (hne : e ≠ it) :
    Turn P w K (.Tuple elts kk tpos) (ItP z.vals.length z.ok fun i => [.int (i : Nat), z.vals.getD i .non]) [e, it] e (fun i h => (∃ old, IsEnum h e it ((0 : Int) + ((i : Nat) : Int)) old) ∧ z.at h it i) := by
  refine turn_of (by simp) (fun i => by simp) ?_ ?_ ?_ ?_
  · intro i h ⟨⟨old, he⟩, hi⟩ b hb
    rcases List.mem_cons.mp hb with rfl | hb
    · exact ⟨_, he, fun v q => nomatch q⟩
    · rw [List.mem_singleton.mp hb]
      exact hi.obj
  · intro i h h' ⟨⟨old, he⟩, hi⟩ k
    exact ⟨⟨old, k e (by simp) _ he⟩, hi.keep (k it (by simp))⟩
  · intro A i s Q E ⟨⟨old, he⟩, _⟩ hq
    exact wpAny_pyIter_enum he hq
  · intro X hP hw hK hc i pins s σ H I hf ⟨⟨old, he⟩, hi⟩ hok
    subst hP hw
    obtain ⟨fp, Pv, Z, D, hZ, h1, h2, h3, h4⟩ := draws_of I (I.ok.hd hc) hok (hf it (by simp)).1 hi
    have hef : e ∉ fp := fun q => by
      rcases h4 e q with z | z
      · exact hne z
      · exact z (hf e (by simp)).1
    refine ⟨_, _, _, _, _, WalksT.enumFrom 0 D e hne hef h3, ⟨⟨old, he⟩, hZ⟩, fun b hb => hb, fun j vals q => ?_, fun j h q _ => ⟨q.1, h1 j h q.2⟩⟩
    obtain ⟨t, x, hx, rfl⟩ := q
    obtain ⟨y, hy, ry⟩ := h2 j x hx
    refine ⟨[.int ((0 : Int) + (j : Int)) t, x], rfl, .cons ⟨t, by rw [Int.zero_add]⟩ (.cons ?_ .nil)⟩
    rw [List.getD_eq_getElem?_getD, hy]
    exact ry
theorem en_new1 {v : Value} {o : Obj} {Hh : Heap → Prop} (B : Begins v o Hh) :
    Meets (Builtin.«enumerate.__new__» ⟨[.type "enumerate", v], []⟩) (fun _ Rr st => Hh st.heap ∧
      Rr (.ok (.ret (.ref (st.heap.push o).objs.size))) { st with heap := (st.heap.push o).push { cls := .type "enumerate", data := .fields #[.none, .bool false, .ref st.heap.objs.size, rawInt 0, .none, .none] } }) :=
  .of_wp fun prog w A Rr st h => by
    obtain ⟨hp, gg, dd, tk, oo⟩ := st
    obtain ⟨h1, h⟩ := h
    have hsub := sub_enumerate
    have q1 : ∀ {A2 : Around} {E2 : Value → Shared → Prop} {Q2 : Value → Shared → Prop}, Q2 (.ref hp.objs.size) ⟨hp.push o, gg, dd, tk, oo⟩ → wpAny (model prog w) A2 (pyIter v) Q2 E2 ⟨hp, gg, dd, tk, oo⟩ :=
      fun q => B.iter prog w _ _ ⟨hp, gg, dd, tk, oo⟩ _ h1 q
    wp_walk using q1
    refine wpAny_stack_any fun st2 => wpAny_pure ?_
    split
    · rename_i c _ _ _ _ _
      cases (c == Value.type "enumerate")
      · wp_walk using q1
        exact ⟨_, rfl, h⟩
      · wp_walk using q1
        exact ⟨_, rfl, h⟩
    · wp_walk using q1
      exact ⟨_, rfl, h⟩
theorem en_begins {prog : Program} {w : World} {A : Around} {E : Value → Shared → Prop} {st : Shared} {v : Value} {o : Obj} {Hh : Heap → Prop} {Q : Value → Shared → Prop} (B : Begins v o Hh) (h1 : Hh st.heap)
    (h : ∀ h2, IsEnum h2 (st.heap.objs.size + 1) st.heap.objs.size 0 .none → h2.get? st.heap.objs.size = some o → (∀ b u, st.heap.get? b = some u → h2.get? b = some u) → Q (.ref (st.heap.objs.size + 1)) { st with heap := h2 }) :
    wpAny (model prog w) A (call (.type "enumerate") [v]) Q E st := by
  refine callType_new F.called_enumerate (by decide) (F.typeCall_enumerate_1 _) (F.newCall_enumerate_1 _) (fun obj => F.args_object_init_2 obj _) F.entry_enumerate_new (en_new1 B) ⟨h1, ?_⟩
  have hz : (st.heap.push o).objs.size = st.heap.objs.size + 1 := Heap.size_push ..
  show _ ∧ _
  rw [hz]
  have he : IsEnum ((st.heap.push o).push { cls := .type "enumerate", data := .fields #[.none, .bool false, .ref st.heap.objs.size, rawInt 0, .none, .none] }) (st.heap.objs.size + 1) st.heap.objs.size 0 .none := by
    have e2 := Heap.get?_push_size (st.heap.push o) (o := { cls := .type "enumerate", data := .fields #[.none, .bool false, .ref st.heap.objs.size, rawInt 0, .none, .none] }) rfl
    rw [hz] at e2
    exact e2
  exact ⟨⟨_, he, rfl⟩, h _ he (Heap.get?_push_of_some _ (Heap.get?_push_size _ B.free)) fun b u x => Heap.get?_push_of_some _ (Heap.get?_push_of_some _ x)⟩
theorem begins_of (I : Inv X pins σ H s) {z : Src} (hz : z.ok H) {u : Value} (hu : RelV z.v u) : ∃ (o : Obj) (Hh : Heap → Prop), Begins u o Hh ∧ Hh s.heap ∧ ∀ h it, h.get? it = some o → z.at h it 0 := by
  cases z with
  | lst a xs =>
    obtain rfl : u = .ref a := hu
    obtain ⟨its, rv, p, _⟩ := I.list (SqL.of hz)
    exact ⟨_, _, begins_list a its.toArray, p.isList, fun h it e => ⟨_, e, rfl, rfl⟩⟩
  | tup a xs =>
    obtain rfl : u = .ref a := hu
    obtain ⟨its, rv, p, _⟩ := I.tuple (SqT.of hz)
    exact ⟨_, _, begins_tuple a its.toArray, p, fun h it e => ⟨_, e, rfl, rfl⟩⟩
  | txt x =>
    obtain ⟨t, rfl⟩ := hu
    exact ⟨_, _, begins_text x t, trivial, fun h it e => ⟨t, _, e, rfl, rfl⟩⟩
def iEn (ta : TA) : TI := fun σ H R => ta σ H fun vs H1 => ∃ z : Src, vs = [z.v] ∧ z.ok H1 ∧ R (ItP z.vals.length z.ok fun i => [.int (i : Nat), z.vals.getD i .non]) H1
theorem pi_en {e : Expr} {ta : TA} {p pos tpos : Pos} {elts : List Expr} {kk : Nat} (hg : Gl X "enumerate") (hm : X.mg "enumerate" = none) (ha : PA X [e] ta) (hs : starEach [e] X.env = [(false, eval e X.env)] := by rfl) :
    PI X (.Tuple elts kk tpos) (.Call (.Name "enumerate" p) [e] [] pos) (iEn ta) := by
  refine ⟨fun pins s σ H R I h => ?_⟩
  refine Call_ (ld_blt I hg hm boot_enumerate (PyProof.Rows.callWith_type1 (thn (ha.run pos pins s σ H _ I h) fun us s1 ⟨vs, H1, I1, r1, q1⟩ => ?_) hs rfl))
  obtain ⟨z, rfl, hz, q⟩ := q1
  obtain ⟨u, rfl, ru⟩ := vals1 r1
  obtain ⟨o, Hh, B, hH, hat⟩ := begins_of I1 hz ru
  refine en_begins B hH fun h2 he hi hk => wpAny_pyIter_enum he ?_
  have I2 : Inv X pins σ H1 { s1 with heap := h2 } := I1.kept (t' := s1.toks) hk
  refine ⟨s1.heap.objs.size + 1, [s1.heap.objs.size + 1, s1.heap.objs.size], _, _, H1, rfl, I2, turn_en z (s1.heap.objs.size + 1) s1.heap.objs.size (Nat.succ_ne_self _), ⟨⟨.none, he⟩, hat _ _ hi⟩, fun b hb => ?_, q⟩
  have hle : s1.heap.objs.size ≤ b := by
    rcases List.mem_cons.mp hb with w | w
    · rw [w]; exact Nat.le_add_right _ _
    · rw [List.mem_singleton.mp w]; exact Nat.le_refl _
  exact I1.fpOk hle (I1.hok.fresh hle)
end
def srcD : D → Option (List D)
  | .lst l => some l
  | .tup l => some l
  | .str s => some (s.map fun c => D.str [c])
  | _ => none
section
variable {X : Cx} {C : Cfg} {F G0 G G' H H' : Hp} {pn : Pn} {σ : St} {e e' : Env'} {x y : Ex} {a b : Expr} {p pos tpos : Pos} {elts : List Expr} {kk : Nat}
theorem src_of {v : V} {d : D} {l : List D} (r : Rep C.K G v d) (h : srcD d = some l) : ∃ z : Src, z.v = v ∧ z.ok G ∧ RepL C.K G z.vals l := by
  unfold srcD at h
  split at h
  · cases h
    cases r with
    | lst q rr => exact ⟨.lst _ _, rfl, q, rr⟩
  · cases h
    cases r with
    | tup q rr => exact ⟨.tup _ _, rfl, q, rr⟩
  · rename_i s
    cases h
    cases r
    refine ⟨.txt ⟨s.toArray⟩, rfl, trivial, ?_⟩
    show RepL C.K G ((⟨s.toArray⟩ : Str).cps.toList.map fun c => V.str ⟨#[c]⟩) _
    have e0 : (⟨s.toArray⟩ : Str).cps.toList = s := by simp
    rw [e0]
    clear e0
    induction s with
    | nil => exact .nil
    | cons c s ih => exact .cons (.str [c]) ih
  · cases h
theorem walks_P {n : Nat} {ok : Hp → Prop} {vs : Nat → List V} {items : List D} (hn : items.length = n) (hok : ∀ G1 H, Same G G1 → Same G1 H → ok H) (hr : ∀ i d, items[i]? = some d → ∃ ds, d = .tup ds ∧ RepL C.K G (vs i) ds) : Walks C G (ItP n ok vs) items where
  go := fun i G1 H hi s1 s2 => ⟨by omega, hok G1 H s1 s2⟩
  stop := fun i G1 H hi s1 s2 => ⟨by omega, hok G1 H s1 s2⟩
  yld := fun i d G1 H H' x hd s1 s2 t y => by
    obtain ⟨T, rfl, hT, rfl⟩ := y
    obtain ⟨ds, rfl, rr⟩ := hr i d hd
    have gT := s2.free hT
    refine ⟨upd G1 T (.tup (vs i)), grow_new s2 t hT, .tup upd_same (rr.mono fun b u hb => ?_)⟩
    have hb1 := s1 _ _ hb
    rw [upd_ne (ne_of_none hb1 gT)]
    exact hb1
def numL (i : Nat) : List D → List D
  | [] => []
  | d :: ds => .tup [.int (i : Nat), d] :: numL (i + 1) ds
theorem numL_get : ∀ {l : List D} {i j : Nat} {d : D}, (numL i l)[j]? = some d → ∃ x, l[j]? = some x ∧ d = .tup [.int ((i + j : Nat) : Int), x]
  | [], i, j, d, h => by simp [numL] at h
  | x :: l, i, 0, d, h => by
    have h' := Option.some.inj (show some _ = some _ from h)
    exact ⟨x, rfl, h'.symm⟩
  | x :: l, i, j + 1, d, h => by
    obtain ⟨y, h1, h2⟩ := numL_get (l := l) (i := i + 1) (j := j) (by simpa [numL] using h)
    exact ⟨y, by simpa using h1, by rw [h2, show i + 1 + j = i + (j + 1) by omega]⟩
theorem numL_len : ∀ (l : List D) (i : Nat), (numL i l).length = l.length
  | [], _ => rfl
  | _ :: l, i => congrArg Nat.succ (numL_len l (i + 1))
def enumF : List D → Option (List D) := fun ds => match ds with
  | [d] => (srcD d).map (numL 0)
  | _ => none
theorem ci_enum (hg : Gl X "enumerate") (hm : X.mg "enumerate" = none) (ha : PE X a (tE C x)) (hs : starEach [a] X.env = [(false, eval a X.env)] := by rfl) : PI X (.Tuple elts kk tpos) (.Call (.Name "enumerate" p) [a] [] pos) (tI C enumF [x]) :=
  (pi_en hg hm (ca_cons ha ca_nil (by rw [hs] <;> rfl)) hs).imp fun σ H R q => by
    obtain ⟨F, G0, G, pn, e, rs, e1, ds, e2, items, Rr, q1, q2, q3, k⟩ := q
    refine ⟨F, G0, G, pn, e, rs, e1, Rr, q1, fun vs G1 H1 R1 s1 r1 => ?_⟩
    obtain ⟨G2, s2, R2, r2, _⟩ := Rel.settles R1 r1 q2
    unfold enumF at q3
    split at q3
    · rename_i d
      cases hd : srcD d with
      | none => rw [hd] at q3; cases q3
      | some l =>
        rw [hd] at q3
        cases q3
        cases r2 with
        | cons ra rb =>
          cases rb
          obtain ⟨z, hv, hz, rl⟩ := src_of ra hd
          refine ⟨z, by rw [hv], hz.mono R2.gh, k _ G2 H1 R2 (s1.trans s2) (walks_P (by rw [numL_len, rl.length]) (fun G3 H3 t1 t2 => hz.mono (t1.trans t2)) fun i d h => ?_)⟩
          obtain ⟨y, h1, rfl⟩ := numL_get h
          obtain ⟨w, w1, w2⟩ := rl.getD h1
          refine ⟨_, rfl, .cons (by rw [Nat.zero_add]; exact .int _) (.cons ?_ .nil)⟩
          rw [List.getD_eq_getElem?_getD, w1]
          exact w2
    · cases q3
end
end Mi
namespace Mi
open PySem PySem.Spec PyProof.Rows L2 GxR
theorem turn_z2 {P : Program} {w : World} {K : Frag} {elts : List Expr} {kk : Nat} {tpos : Pos} (z1 z2 : Src) {N : Nat} :
    Turn P w K (.Tuple elts kk tpos) (ItP (min z1.vals.length z2.vals.length) (fun H => z1.ok H ∧ z2.ok H) fun i => [z1.vals.getD i .non, z2.vals.getD i .non]) [N + 4, N + 2, N + 3, N, N + 1] (N + 4)
      (fun i h => IsZip h (N + 4) (N + 2) (N + 3) .none ∧ IsTupOf2 h (N + 2) (.ref N) (.ref (N + 1)) ∧ (∃ a1 a2, IsTupOf2 h (N + 3) a1 a2) ∧ z1.at h N i ∧ z2.at h (N + 1) i) := by
  refine turn_of (by simp) (fun i => by simp) ?_ ?_ ?_ ?_
  · intro i h ⟨h1, h2, ⟨_, _, h3⟩, h4, h5⟩ b hb
    simp only [List.mem_cons, List.not_mem_nil, or_false] at hb
    rcases hb with rfl | rfl | rfl | rfl | rfl
    · exact ⟨_, h1, fun v q => nomatch q⟩
    · exact ⟨_, h2, fun v q => nomatch q⟩
    · exact ⟨_, h3, fun v q => nomatch q⟩
    · exact h4.obj
    · exact h5.obj
  · intro i h h' ⟨h1, h2, ⟨a1, a2, h3⟩, h4, h5⟩ k
    exact ⟨k _ (by simp) _ h1, k _ (by simp) _ h2, ⟨a1, a2, k _ (by simp) _ h3⟩, h4.keep (k _ (by simp)), h5.keep (k _ (by simp))⟩
  · intro A i s Q E ⟨h1, _⟩ hq
    exact wpAny_pyIter_zip h1 hq
  · intro X hP hw hK hc i pins s σ H I hf ⟨h1, h2, h3, h4, h5⟩ hok
    subst hP hw
    obtain ⟨fp1, P1, Z1, D1, q1, q2, q3, q4, q5⟩ := draws_of I (I.ok.hd hc) hok.1 (hf N (by simp)).1 h4
    obtain ⟨fp2, P2, Z2, D2, r1, r2, r3, r4, r5⟩ := draws_of I (I.ok.hd hc) hok.2 (hf (N + 1) (by simp)).1 h5
    have n1 : ∀ j : Nat, j ≠ 0 → H (N + j : Nat) = none → (N + j : Nat) ∉ fp1 := fun j hj hn q => by
      rcases q5 _ q with z | z
      · have z' : (N + j : Nat) = N := z
        omega
      · exact z hn
    have n2 : ∀ j : Nat, j ≠ 1 → H (N + j : Nat) = none → (N + j : Nat) ∉ fp2 := fun j hj hn q => by
      rcases r5 _ q with z | z
      · have z' : (N + j : Nat) = N + 1 := z
        omega
      · exact z hn
    have S : ZipSep2 (N + 4) (N + 2) (N + 3) N (N + 1) fp1 fp2 :=
      { TIz := show (N + 2 : Nat) ≠ N + 4 by omega, TOz := show (N + 3 : Nat) ≠ N + 4 by omega, TITO := show (N + 2 : Nat) ≠ N + 3 by omega, TIi1 := show (N + 2 : Nat) ≠ N by omega, mem1 := q4, zf1 := n1 4 (by omega) (hf _ (by simp)).1, Tf1 := n1 3 (by omega) (hf _ (by simp)).1,
        TIi2 := show (N + 2 : Nat) ≠ N + 1 by omega, mem2 := r4, zf2 := n2 4 (by omega) (hf _ (by simp)).1, Tf2 := n2 3 (by omega) (hf _ (by simp)).1, sep1_2 := n2 0 (by omega) (hf N (by simp)).1, sep2_1 := n1 1 (by omega) (hf _ (by simp)).1 }
    refine ⟨_, _, _, _, _, WalksT.zipD2 S D1 D2, ⟨h1, h2, h3, q1, r1⟩, fun b hb => ?_, fun j vals q => ?_, fun j h q _ => ⟨q.1, q.2.1, q.2.2.1, q2 j h q.2.2.2.1, r2 j h q.2.2.2.2⟩⟩
    · simp only [List.mem_cons, List.not_mem_nil, or_false] at hb ⊢
      rcases hb with rfl | rfl | rfl | rfl <;> simp
    · obtain ⟨x1, x2, hx1, hx2, rfl⟩ := q
      obtain ⟨y1, hy1, ry1⟩ := q3 j x1 hx1
      obtain ⟨y2, hy2, ry2⟩ := r3 j x2 hx2
      refine ⟨[x1, x2], rfl, .cons ?_ (.cons ?_ .nil)⟩
      · rw [List.getD_eq_getElem?_getD, hy1]
        exact ry1
      · rw [List.getD_eq_getElem?_getD, hy2]
        exact ry2
section
variable {X : Cx} {pins : List (Addr × Obj)} {σ : L2.St} {H : Hp} {s : Shared}
def iZ2 (ta : TA) : TI := fun σ H R => ta σ H fun vs H1 => ∃ z1 z2 : Src, vs = [z1.v, z2.v] ∧ z1.ok H1 ∧ z2.ok H1 ∧ R (ItP (min z1.vals.length z2.vals.length) (fun H => z1.ok H ∧ z2.ok H) fun i => [z1.vals.getD i .non, z2.vals.getD i .non]) H1
theorem pi_z2 {e e2 : Expr} {ta : TA} {p pos tpos : Pos} {elts : List Expr} {kk : Nat} (hg : Gl X "zip") (hm : X.mg "zip" = none) (ha : PA X [e, e2] ta) (hs : starEach [e, e2] X.env = (false, eval e X.env) :: starEach [e2] X.env := by rfl)
    (hpl : (backTo pos (starEach [e2] X.env)).any (·.1) = false := by rfl) : PI X (.Tuple elts kk tpos) (.Call (.Name "zip" p) [e, e2] [] pos) (iZ2 ta) := by
  refine ⟨fun pins s σ H R I h => ?_⟩
  refine Call_ (ld_blt I hg hm PyProof.Rows.boot_zip (PyProof.Rows.callWith_type1 (thn (ha.run pos pins s σ H _ I h) fun us s1 ⟨vs, H1, I1, r1, q1⟩ => ?_) hs hpl))
  obtain ⟨z1, z2, rfl, hz1, hz2, q⟩ := q1
  obtain ⟨u1, u2, rfl, ru1, ru2⟩ := vals2 r1
  obtain ⟨o1, Hh1, B1, hH1, hat1⟩ := begins_of I1 hz1 ru1
  obtain ⟨o2, Hh2, B2, hH2, hat2⟩ := begins_of I1 hz2 ru2
  refine zip_begins2 B1 B2 hH1 hH2 fun h2 a1 a2 a3 g1 g2 hsz hk => wpAny_pyIter_zip a1 ?_
  have I2 : Inv X pins σ H1 { s1 with heap := h2 } := I1.kept (t' := s1.toks) hk
  refine ⟨s1.heap.objs.size + 4, [s1.heap.objs.size + 4, s1.heap.objs.size + 2, s1.heap.objs.size + 3, s1.heap.objs.size, s1.heap.objs.size + 1], _, _, H1, rfl, I2, turn_z2 z1 z2, ⟨a1, a2, ⟨_, _, a3⟩, hat1 _ _ g1, hat2 _ _ g2⟩, fun b hb => ?_, q⟩
  have hle : s1.heap.objs.size ≤ b := by
    simp only [List.mem_cons, List.not_mem_nil, or_false] at hb
    rcases hb with w | w | w | w | w <;> rw [w] <;> first | exact Nat.le_add_right _ _ | exact Nat.le_refl _
  exact I1.fpOk hle (I1.hok.fresh hle)
end
section
variable {X : Cx} {C : Cfg} {F G0 G G' H H' : Hp} {pn : Pn} {σ : St} {e e' : Env'} {x y : Ex} {a b : Expr} {p pos tpos : Pos} {elts : List Expr} {kk : Nat}
def zipL : List D → List D → List D
  | x :: xs, y :: ys => .tup [x, y] :: zipL xs ys
  | _, _ => []
theorem zipL_get : ∀ {l m : List D} {j : Nat} {d : D}, (zipL l m)[j]? = some d → ∃ x y, l[j]? = some x ∧ m[j]? = some y ∧ d = .tup [x, y]
  | [], _, j, d, h => by simp [zipL] at h
  | _ :: _, [], j, d, h => by simp [zipL] at h
  | x :: l, y :: m, 0, d, h => ⟨x, y, rfl, rfl, (Option.some.inj (show some _ = some _ from h)).symm⟩
  | x :: l, y :: m, j + 1, d, h => zipL_get (l := l) (m := m) (j := j) (by simpa [zipL] using h)
theorem zipL_len : ∀ (l m : List D), (zipL l m).length = min l.length m.length
  | [], m => by simp [zipL]
  | _ :: _, [] => by simp [zipL]
  | x :: l, y :: m => by
    show (zipL l m).length + 1 = min (l.length + 1) (m.length + 1)
    rw [zipL_len l m]
    omega
def zip2F : List D → Option (List D) := fun ds => match ds with
  | [d, e] => (match srcD d, srcD e with
    | some l, some m => some (zipL l m)
    | _, _ => none)
  | _ => none
theorem ci_zip2 (hg : Gl X "zip") (hm : X.mg "zip" = none) (ha : PA X [a, b] (tA C [x, y])) (hs : starEach [a, b] X.env = (false, eval a X.env) :: starEach [b] X.env := by rfl) (hpl : (backTo pos (starEach [b] X.env)).any (·.1) = false := by rfl) :
    PI X (.Tuple elts kk tpos) (.Call (.Name "zip" p) [a, b] [] pos) (tI C zip2F [x, y]) := (pi_z2 hg hm ha hs hpl).imp fun σ H R q => by
    obtain ⟨F, G0, G, pn, e, rs, e1, ds, e2, items, Rr, q1, q2, q3, k⟩ := q
    refine ⟨F, G0, G, pn, e, rs, e1, Rr, q1, fun vs G1 H1 R1 s1 r1 => ?_⟩
    obtain ⟨G2, s2, R2, r2, _⟩ := Rel.settles R1 r1 q2
    unfold zip2F at q3
    split at q3
    · rename_i d1 d2
      split at q3
      · rename_i l m hl hm2
        cases q3
        cases r2 with
        | cons ra rb =>
          cases rb with
          | cons rb rc =>
            cases rc
            obtain ⟨z1, hv1, hz1, rl1⟩ := src_of ra hl
            obtain ⟨z2, hv2, hz2, rl2⟩ := src_of rb hm2
            refine ⟨z1, z2, by rw [hv1, hv2], hz1.mono R2.gh, hz2.mono R2.gh, k _ G2 H1 R2 (s1.trans s2) (walks_P (by rw [zipL_len, rl1.length, rl2.length]) (fun G3 H3 t1 t2 => ⟨hz1.mono (t1.trans t2), hz2.mono (t1.trans t2)⟩) fun i d h => ?_)⟩
            obtain ⟨y1, y2, h1, h2, rfl⟩ := zipL_get h
            obtain ⟨w1, w2, w3⟩ := rl1.getD h1
            obtain ⟨v1, v2, v3⟩ := rl2.getD h2
            refine ⟨_, rfl, .cons ?_ (.cons ?_ .nil)⟩
            · rw [List.getD_eq_getElem?_getD, w2]; exact w3
            · rw [List.getD_eq_getElem?_getD, v2]; exact v3
      · cases q3
    · cases q3
end
end Mi
namespace Mi
open PySem PySem.Spec PyProof.Rows L2 GxR
section
variable {X : Cx} {C : Cfg} {F G0 G G' H H' : Hp} {pn : Pn} {σ : St} {e e' : Env'} {x y : Ex} {a b : Expr} {xs : List Ex} {es : List Expr} {fl : List Bool} {p pos : Pos}
def tD (C : Cfg) (fl : List Bool) (xs : List Ex) : TA := fun σ H Q => ∃ (F G0 G : Hp) (pn : Pn) (e : Env') (ds : List D) (e' : Env'), Rel C F G0 G H pn σ e ∧ evd fl xs e = some (ds, e') ∧
  ∀ vs G' H', Rel C F G0 G' H' pn σ e' → Same G G' → RepL C.K G' vs ds → Q vs H'
theorem cd_nil : PA X [] (tD C fl []) := pa_nil.imp fun σ H Q q => by
  obtain ⟨F, G0, G, pn, e, ds, e', R, he, k⟩ := q
  unfold evd at he
  cases he
  exact k [] G H R (Same.refl G) .nil
theorem cd_cons (ha : PE X a (tE C x)) (hr : PA X es (tD C fl xs)) (hs : starEach (a :: es) X.env = (false, eval a X.env) :: starEach es X.env := by rfl) : PA X (a :: es) (tD C (false :: fl) (x :: xs)) := (pa_cons ha hr hs).imp fun σ H Q q => by
  obtain ⟨F, G0, G, pn, e, ds, e', R, he, k⟩ := q
  unfold evd at he
  split at he
  · rename_i r e1 q1
    dsimp only at he
    split at he
    · rename_i d e2 q2
      split at he
      · rename_i ds3 e3 q3
        cases he
        refine ⟨F, G0, G, pn, e, r, e1, R, q1, fun v G1 H1 R1 s1 rv => ?_⟩
        obtain ⟨G2, s2, R2, r2, _⟩ := R1.settle rv q2
        exact ⟨F, G0, G2, pn, e2, ds3, _, R2, q3, fun vs G3 H3 R3 s3 r3 => k (v :: vs) G3 H3 R3 ((s1.trans s2).trans s3) (.cons (r2.mono s3) r3)⟩
      · cases he
    · cases he
  · cases he
theorem cd_star (hK : C.K.f = X.K) (ha : PE X a (tE C x)) (hr : PA X es (tD C fl xs)) (hs : starEach (.Starred a p :: es) X.env = (true, eval a X.env) :: starEach es X.env := by rfl) : PA X (.Starred a p :: es) (tD C (true :: fl) (x :: xs)) := (StX.pa_star ha hr hs).imp fun σ H Q q => by
  obtain ⟨F, G0, G, pn, e, ds, e', R, he, k⟩ := q
  unfold evd at he
  split at he
  · rename_i r e1 q1
    dsimp only at he
    split at he
    · rename_i d q2
      split at he
      · rename_i l q3
        split at he
        · rename_i ds3 e3 q4
          cases he
          refine ⟨F, G0, G, pn, e, r, e1, R, q1, fun v G1 H1 R1 s1 rv => ?_⟩
          have rt := R1.get rv q2
          have fin : ∀ {pp : Addr} {zs : List V}, v = .ref pp → (SqT X.K H1 pp zs ∨ SqL X.K H1 pp zs) → RepL C.K G1 zs l → StX.tStar X.K (fun σ H Q => Q v H) (tD C fl xs) σ H1 Q := fun {pp zs} hv hq rl => by
            refine ⟨pp, zs, hv, hq, F, G0, G1, pn, e1, ds3, e', R1, q4, fun vs G3 H3 R3 s3 r3 => k (zs ++ vs) G3 H3 R3 (s1.trans s3) ((rl.mono s3).append r3)⟩
          unfold starD at q3
          split at q3
          · cases q3
            cases rt with
            | lst h1 rl => exact fin rfl (.inr (SqL.of h1)) rl
          · cases q3
            cases rt with
            | tup g h1 rl => exact fin rfl (.inl (SqT.of h1)) rl
          · cases q3
        · cases he
      · cases he
    · cases he
  · cases he
def lstS : List D → Option D := fun ds => if ds.length ≤ 16000000 then some (.lst ds) else none
theorem ev_dsp {f : List D → Option D} {r : Rv} (h : ev (.dsp f fl xs) e = some (r, e')) : ∃ ds d, evd fl xs e = some (ds, e') ∧ f ds = some d ∧ r = .pers d := by
  unfold ev at h
  split at h
  · rename_i ds e1 q
    split at h
    · rename_i d q2
      cases h
      exact ⟨ds, d, q, q2, rfl⟩
    · cases h
  · cases h
theorem cf_lstS (h : PA X es (tD C fl xs)) : PE X (.List es pos) (tF C (.dsp lstS fl xs)) := (pe_lst h).imp fun σ H Q q => by
  obtain ⟨F, G0, G, pn, e, d, e', R, he, k⟩ := q
  obtain ⟨ds, d', q1, q2, q3⟩ := ev_dsp he
  cases q3
  refine ⟨F, G0, G, pn, e, ds, e', R, q1, fun vs G1 H1 R1 s1 r1 => ?_⟩
  unfold lstS at q2
  split at q2
  · rename_i hz
    cases q2
    exact ⟨by rw [r1.length]; exact lim16 hz, fun pp hp => own_of_new R1 s1 k pp _ hp (.lst r1)⟩
  · cases q2
end
end Mi
namespace Mi
open PySem PySem.Spec PyProof.Rows L2 GxR
def intsOf : List D → Option (List Int)
  | [] => some []
  | .int i :: ds => (intsOf ds).map fun l => i :: l
  | _ :: _ => none
theorem intsOf_map : ∀ {ds : List D} {l : List Int}, intsOf ds = some l → ds = l.map D.int
  | [], l, h => by cases h; rfl
  | .int i :: ds, l, h => by
    unfold intsOf at h
    cases q : intsOf ds with
    | none => rw [q] at h; cases h
    | some m =>
      rw [q] at h
      cases h
      rw [intsOf_map q] <;> rfl
  | .non :: ds, l, h => by unfold intsOf at h; cases h
  | .bl _ :: ds, l, h => by unfold intsOf at h; cases h
  | .str _ :: ds, l, h => by unfold intsOf at h; cases h
  | .tup _ :: ds, l, h => by unfold intsOf at h; cases h
  | .lst _ :: ds, l, h => by unfold intsOf at h; cases h
  | .dic _ _ :: ds, l, h => by unfold intsOf at h; cases h
  | .scr _ :: ds, l, h => by unfold intsOf at h; cases h
  | .fn _ :: ds, l, h => by unfold intsOf at h; cases h
  | .ptp _ :: ds, l, h => by unfold intsOf at h; cases h
  | .ndc _ _ :: ds, l, h => by unfold intsOf at h; cases h
section
variable {X : Cx} {C : Cfg}
theorem dp_ints {K : Frag} {H : Hp} : ∀ ns : List Int, DpAll K H (ns.map V.int) (ns.map PyData.int)
  | [] => .nil
  | n :: ns => .cons (.int n) (dp_ints ns)
theorem alike_ints (ns : List Int) : W.AlikeAll (ns.map PyData.int) := by
  refine ⟨fun x hx y hy => ?_, fun x hx => ?_⟩
  · obtain ⟨i, _, rfl⟩ := List.mem_map.mp hx
    obtain ⟨j, _, rfl⟩ := List.mem_map.mp hy
    simp [W.alike]
  · obtain ⟨i, _, rfl⟩ := List.mem_map.mp hx
    exact fun z => by cases z
theorem depth_ints : ∀ ns : List Int, PyData.depthAll (ns.map PyData.int) = 0
  | [] => by simp [PyData.depthAll]
  | n :: ns => by simp [PyData.depthAll, PyData.depth, depth_ints ns]
def rNums (K : Frag) (f : Int → List Int → Int) : List V → Hp → VK → Prop := fun vs H Q => ∃ (a : Addr) (n : Int) (ns : List Int), vs = [.ref a] ∧ (SqL K H a ((n :: ns).map V.int) ∨ SqT K H a ((n :: ns).map V.int)) ∧ Q (.int (f n ns)) H
theorem cr_minI (hc : X.calm = true) (hu : X.A.units + 100 < cLine) : CallR X (.builtin "min") (rNums X.K fun n ns => ns.foldl min n) := by
  intro pins s σ H vs us Q I r h
  obtain ⟨a, n, ns, rfl, hs, q⟩ := h
  rw [Vals.ref1 r]
  have hd := depth_ints (n :: ns)
  have fin : ∀ {v : Value} {h' : Heap} {tk : Nat} {bs : List Addr}, Reads h' v (W.minD (.int n) (ns.map .int)) bs → (∀ b o, s.heap.get? b = some o → h'.get? b = some o) → EP X pins σ Q v { s with heap := h', toks := tk } := fun {v h' tk bs} hr hk => by
    rw [W.minD_ints] at hr
    cases hr with
    | int _ t => exact ⟨.int _, H, I.kept hk, ⟨t, rfl⟩, q⟩
  rcases hs with hs | hs
  · obtain ⟨its, rv, hl, _⟩ := I.list hs
    obtain ⟨as, hr⟩ := Dp.readsAll I _ _ its (dp_ints (n :: ns)) rv
    exact W.min_list_data (I.ok.hd hc) hl.isList (by simpa using hr) (alike_ints (n :: ns)) (by rw [show (PyData.int n :: ns.map .int) = (n :: ns).map .int from rfl, hd]; omega) fun i v h' tk bs _ hr hk => fin hr hk
  · obtain ⟨its, rv, hl, _⟩ := I.tuple hs
    obtain ⟨as, hr⟩ := Dp.readsAll I _ _ its (dp_ints (n :: ns)) rv
    exact W.min_tuple_data (I.ok.hd hc) hl (by simpa using hr) (alike_ints (n :: ns)) (by rw [show (PyData.int n :: ns.map .int) = (n :: ns).map .int from rfl, hd]; omega) fun i v h' tk bs _ hr hk => fin hr hk
def numsF (f : Int → List Int → Int) : List D → Option D
  | [.lst l] => (match intsOf l with
    | some (n :: ns) => some (.int (f n ns))
    | _ => none)
  | [.tup l] => (match intsOf l with
    | some (n :: ns) => some (.int (f n ns))
    | _ => none)
  | _ => none
abbrev minIF := numsF fun n ns => ns.foldl min n
theorem numsF_ok {f : Int → List Int → Int} : OkN C (rNums X.K f) (numsF f) := fun vs ds d G H Q s t r e k => by
  unfold numsF at e
  split at e
  · rename_i l
    split at e
    · rename_i n ns hm
      cases e
      obtain ⟨v, rfl, rv⟩ := repTs_one r
      cases rv with
      | lst q rr =>
        rw [intsOf_map hm] at rr
        exact ⟨_, n, ns, rfl, .inl (SqL.of (by rw [q, rr.ints])), res_flat s t k (.int _)⟩
    · cases e
  · rename_i l
    split at e
    · rename_i n ns hm
      cases e
      obtain ⟨v, rfl, rv⟩ := repTs_one r
      cases rv with
      | tup g q rr =>
        rw [intsOf_map hm] at rr
        exact ⟨_, n, ns, rfl, .inr (SqT.of (by rw [q, rr.ints])), res_flat s t k (.int _)⟩
    · cases e
  · cases e
end
end Mi
namespace Mi
open PySem PySem.Spec PyProof.Rows L2 GxR
theorem hu100 {k : Nat} {A : Around} (hr : Room k A) : A.units + 100 < cLine := by have := hr.un; omega
section
variable {X : Cx} {C : Cfg} {a : Expr} {x : Ex} {xs : List Ex} {pos : Pos}
variable {elt tgx iter tgx2 iter2 : Expr} {ifs ifs2 : List Expr} {scope : Scope} {own : List (Str × Nat)} {g g2 : List D → Option (List D)} {tg tg2 : Tg} {cs cs2 as2 : List Ex} {vs1 : List Nat} {spos py : Pos} {i : Nat} {nm : Str}
theorem cf_lc2E {vs : List Nat} (h : PE X a (tF C (.lc2 g xs vs tg cs g2 as2 vs1 tg2 cs2 x))) : PE X a (tE C (.lc2 g xs vs tg cs g2 as2 vs1 tg2 cs2 x)) := cf_ce h lc2_pers
theorem cs_setLc2 (hc : X.calm = true) (hN : X.N.Nodup) (hy : X.N[i]? = some nm) (hyl : X.env.scope.names.lookup nm = some .local) (hsw : swapsWith (.ListComp elt [⟨tgx, iter, ifs, 0⟩, ⟨tgx2, iter2, ifs2, 0⟩] scope pos) (some (.Name nm py)) spos.line X.env = pure true) (hi : PI X tgx iter (tI C g xs)) (ok : BlkOk X.N X.env.scope scope own)
    (hv : (vs1.all fun i => (own.map (·.2)).contains i) = true)
    (hg : ∀ (s : Shared) (H : Hp) (Cc : Addr) (cl : List (Str × Addr)) (fp : List Addr), PG (X.blk s H scope (compEnvC scope cl Cc X.env) fp) tgx (tG C tg)) (ht : ∀ (s : Shared) (H : Hp) (Cc : Addr) (cl : List (Str × Addr)) (fp : List Addr), PTs (X.blk s H scope (compEnvC scope cl Cc X.env) fp) ifs (tTs C cs))
    (hi1 : ∀ (s : Shared) (H : Hp) (Cc : Addr) (cl : List (Str × Addr)) (fp : List Addr), PI (X.blk s H scope (compEnvC scope cl Cc X.env) fp) tgx2 iter2 (tI C g2 as2))
    (hg1 : ∀ (s : Shared) (H : Hp) (Cc : Addr) (cl : List (Str × Addr)) (fp : List Addr), PG (X.blk s H scope (compEnvC scope cl Cc X.env) fp) tgx2 (tG C tg2)) (ht1 : ∀ (s : Shared) (H : Hp) (Cc : Addr) (cl : List (Str × Addr)) (fp : List Addr), PTs (X.blk s H scope (compEnvC scope cl Cc X.env) fp) ifs2 (tTs C cs2))
    (he : ∀ (s : Shared) (H : Hp) (Cc : Addr) (cl : List (Str × Addr)) (fp : List Addr), PE (X.blk s H scope (compEnvC scope cl Cc X.env) fp) elt (tE C x)) (hsl : (tg.slots.all fun i => (own.map (·.2)).contains i) = true) (hsl2 : (tg2.slots.all fun i => vs1.contains i) = true)
    (hs : ∀ x, foldedSetIterable iter X.env x = pure x := by intro _; rfl) (hs1 : ∀ env x, foldedSetIterable iter2 env x = pure x := by intro _ _; rfl) :
    PS X (.Assign [.Name nm py] (.ListComp elt [⟨tgx, iter, ifs, 0⟩, ⟨tgx2, iter2, ifs2, 0⟩] scope pos) spos) (tS C (.set (.nm i) (.lc2 g xs (own.map (·.2)) tg cs g2 as2 vs1 tg2 cs2 x))) :=
  (ps_setLc2 hc hN hy hyl hsw hi ok (fun i hi => List.contains_iff_mem.mp (List.all_eq_true.mp hv i hi)) hg ht hi1 hg1 ht1 he hs hs1).imp fun D σ H q => set_of (fun _ _ _ h =>
    tLc2_of (fun i hi => List.contains_iff_mem.mp (List.all_eq_true.mp hsl i hi)) (fun i hi => List.contains_iff_mem.mp (List.all_eq_true.mp hsl2 i hi)) (tF_tE h lc2_pers)) gName_of q
end
end Mi
namespace Mi
open PySem PySem.Spec PyProof.Rows L2 GxR
theorem findA_spec (c : Nat) : ∀ (s : List Nat) (i : Nat), ((∀ j : Nat, s[j]? ≠ some c) ∧ findA c s i = -1) ∨ ∃ j : Nat, s[j]? = some c ∧ (∀ k : Nat, k < j → s[k]? ≠ some c) ∧ findA c s i = ((i + j : Nat) : Int)
  | [], i => .inl ⟨fun j => by simp, rfl⟩
  | a :: s, i => by
    unfold findA
    by_cases hc : a = c
    · rw [if_pos hc]
      exact .inr ⟨0, by simp [hc], fun k hk => absurd hk (Nat.not_lt_zero k), by rw [Nat.add_zero]⟩
    · rw [if_neg hc]
      rcases findA_spec c s (i + 1) with ⟨h1, h2⟩ | ⟨j, h1, h2, h3⟩
      · refine .inl ⟨fun j => ?_, h2⟩
        cases j with
        | zero => simpa using hc
        | succ j => exact h1 j
      · refine .inr ⟨j + 1, h1, fun k hk => ?_, by rw [h3]; congr 1; omega⟩
        cases k with
        | zero => simpa using hc
        | succ k => exact h2 k (by omega)
theorem find_is (s : List Nat) (c : Nat) : Txt.find ⟨s.toArray⟩ ⟨#[c]⟩ = findL s c := by
  unfold Txt.find findL
  rcases StrLaws.occ_head ⟨s.toArray⟩ ⟨#[c]⟩ 1 (Nat.le_refl 1) with ⟨h1, h2⟩ | ⟨i, r, h1, h2, h3⟩
  · rw [h1]
    rcases findA_spec c s 0 with ⟨_, k2⟩ | ⟨j, k1, _⟩
    · exact k2.symm
    · exact absurd ((at_one s c j).mpr k1) (h2 j)
  · rw [h1]
    have e1 := (at_one s c i).mp h2
    rcases findA_spec c s 0 with ⟨k1, _⟩ | ⟨j, k1, k2, k3⟩
    · exact absurd e1 (k1 i)
    · have : i = j := by
        rcases Nat.lt_trichotomy i j with z | z | z
        · exact absurd e1 (k2 i z)
        · exact z
        · exact absurd ((at_one s c j).mpr k1) (h3 j z)
      rw [k3, this]
      show (j : Int) = ((0 + j : Nat) : Int)
      rw [Nat.zero_add]
section
variable {X : Cx} {C : Cfg}
def findF : List D → Option D
  | [.str s, .str [c]] => some (.int (findL s c))
  | _ => none
theorem findF_str : ∀ ds d, findF ds = some d → ∃ s ds2, ds = .str s :: ds2 := fun ds d h => by
  unfold findF at h
  split at h
  · exact ⟨_, _, rfl⟩
  · cases h
theorem findF_ok : OkN C (fun vs H Q => ∃ v us, vs = v :: us ∧ (∃ a b, v = .str a ∧ us = [.str b] ∧ Q (.int (Txt.find a b)) H)) findF := fun vs ds d G H Q s t r e k => by
  unfold findF at e
  split at e
  · cases e
    obtain ⟨v, w, rfl, rv, rw'⟩ := repTs_two r
    cases rv
    cases rw'
    exact ⟨_, _, rfl, _, _, rfl, rfl, by rw [find_is]; exact res_flat s t k (.int _)⟩
  · cases e
def gcdF : List D → Option D
  | [.int a, .int b] => some (.int ((Nat.gcd a.natAbs b.natAbs : Nat) : Int))
  | _ => none
theorem gcdF_ok : OkN C rGcd gcdF := fun vs ds d G H Q s t r e k => by
  unfold gcdF at e
  split at e
  · cases e
    obtain ⟨v, w, rfl, rv, rw'⟩ := repTs_two r
    cases rv
    cases rw'
    exact ⟨_, _, rfl, res_flat s t k (.int _)⟩
  · cases e
end
end Mi
namespace Mi
open PySem PySem.Spec PyProof.Rows L2 GxR
section
variable {X : Cx} {C : Cfg} {a b c : Expr} {x y z : Ex} {pos : Pos}
end
end Mi
namespace Mi
open PySem PySem.Spec PyProof.Rows L2 GxR
section
variable {X : Cx} {C : Cfg}
end
end Mi
namespace Mi
open PySem PySem.Spec PyProof.Rows L2 GxR
inductive Flo (C : Cfg) (pn : Pn) (G' : Hp) : Hp → Hp → Hp → Hp → List Bool → List V → List D → Prop
  | nil {F G0 : Hp} : Flo C pn G' F G0 F G0 [] [] []
  | keep {F G0 F' G0' : Hp} {fl : List Bool} {vs : List V} {ds : List D} {v : V} {d : D} : Rep C.K G' v d → Flo C pn G' F G0 F' G0' fl vs ds → Flo C pn G' F G0 F' G0' (false :: fl) (v :: vs) (d :: ds)
  | own {F G0 F' G0' : Hp} {fl : List Bool} {vs : List V} {ds : List D} {p : Addr} {o : HO} {d : D} : F p = none → p ∉ C.tt → (∀ i q, (i, q) ∈ pn → q ≠ p) → RepO C.K G' o d → Flo C pn G' (upd F p o) (noG G0 p) F' G0' fl vs ds → Flo C pn G' F G0 F' G0' (true :: fl) (.ref p :: vs) (d :: ds)
def tP (C : Cfg) (fl : List Bool) (xs : List Ex) : TA := fun σ H Q => ∃ (F G0 G : Hp) (pn : Pn) (e : Env') (ds : List D) (e' : Env'), Rel C F G0 G H pn σ e ∧ evo fl xs e = some (ds, e') ∧
  ∀ vs F' G0' G' H', Rel C F' G0' G' H' pn σ e' → Same G G' → Flo C pn G' F G0 F' G0' fl vs ds → Q vs H'
section
variable {X : Cx} {C : Cfg} {F G0 F' G0' G G' H H' : Hp} {pn : Pn} {σ : St} {e e' : Env'} {x y : Ex} {a b : Expr} {xs : List Ex} {es : List Expr} {fl : List Bool} {p pos : Pos}
theorem cp_nil : PA X [] (tP C [] []) := pa_nil.imp fun σ H Q q => by
  obtain ⟨F, G0, G, pn, e, ds, e', R, he, k⟩ := q
  unfold evo at he
  cases he
  exact k [] F G0 G H R (Same.refl G) .nil
theorem cp_keep (ha : PE X a (tE C x)) (hr : PA X es (tP C fl xs)) (hs : starEach (a :: es) X.env = (false, eval a X.env) :: starEach es X.env := by rfl) : PA X (a :: es) (tP C (false :: fl) (x :: xs)) := (pa_cons ha hr hs).imp fun σ H Q q => by
  obtain ⟨F, G0, G, pn, e, ds, e', R, he, k⟩ := q
  unfold evo at he
  split at he
  · rename_i r e1 q1
    split at he
    · rename_i d e2 q2
      split at he
      · rename_i ds3 e3 q3
        cases he
        refine ⟨F, G0, G, pn, e, r, e1, R, q1, fun v G1 H1 R1 s1 rv => ?_⟩
        obtain ⟨G2, s2, R2, r2, _⟩ := R1.settle rv q2
        exact ⟨F, G0, G2, pn, e2, ds3, _, R2, q3, fun vs F3 G03 G3 H3 R3 s3 fo => k (v :: vs) F3 G03 G3 H3 R3 ((s1.trans s2).trans s3) (.keep (r2.mono s3) fo)⟩
      · cases he
    · cases he
  · cases he
theorem cp_own (ha : PE X a (tF C x)) (hr : PA X es (tP C fl xs)) (hs : starEach (a :: es) X.env = (false, eval a X.env) :: starEach es X.env := by rfl) : PA X (a :: es) (tP C (true :: fl) (x :: xs)) := (pa_cons ha hr hs).imp fun σ H Q q => by
  obtain ⟨F, G0, G, pn, e, ds, e', R, he, k⟩ := q
  unfold evo at he
  split at he
  · rename_i d e1 q1
    split at he
    · rename_i ds2 e2 q2
      cases he
      refine ⟨F, G0, G, pn, e, d, e1, R, q1, fun pp o G1 H1 R1 s1 g1 f1 t1 o1 h1 r1 => ?_⟩
      have R2 := R1.fr1 (o := o) h1 g1 f1 o1 t1
      exact ⟨upd F pp o, noG G0 pp, G1, pn, e1, ds2, _, R2, q2, fun vs F3 G03 G3 H3 R3 s3 fo => k (.ref pp :: vs) F3 G03 G3 H3 R3 (s1.trans s3) (.own f1 t1 (R1.pnNe f1 o1) (r1.mono s3) fo)⟩
    · cases he
  · cases he
def setsV (σ : St) : List Nat → List V → St
  | i :: is, v :: vs => (setsV σ is vs).set i (some v)
  | _, _ => σ
theorem pin_of {b : B} (n1 : ∀ d, b = .io d → False) (n2 : ∀ nm fs, b = .ob nm fs → False) (n3 : ∀ d, b = .fr d → False) : b.pin = false := by
  cases b with
  | un => rfl
  | im d => rfl
  | ow d => rfl
  | io d => exact (n1 d rfl).elim
  | ob nm fs => exact (n2 nm fs rfl).elim
  | fr d => exact (n3 d rfl).elim
theorem flo_stores : ∀ {fl : List Bool} {vs : List V} {ds : List D} {F G0 F' G0' : Hp} {is : List Nat} {e2 : Env'}, Flo C pn G' F G0 F' G0' fl vs ds → Rel C F' G0' G' H' pn σ e' → storesO is fl ds e' = some e2 → Rel C F G0 G' H' pn (setsV σ is vs) e2
  | _, _, _, _, _, _, _, is, e2, .nil, R, h => by
    cases is with
    | nil =>
      unfold storesO at h
      cases h
      exact R
    | cons i is => simp [storesO] at h
  | _, _, _, _, _, _, _, is, e2, .keep rv fo, R, h => by
    cases is with
    | nil => simp [storesO] at h
    | cons i is =>
      unfold storesO at h
      split at h
      · rename_i e1 q1
        have R1 := flo_stores fo R q1
        split at h
        · cases h
        · cases h
        · cases h
        · rename_i b0 n1 n2 n3 h0
          simp only [Bool.false_eq_true, if_false, Option.some.injEq] at h
          subst h
          exact R1.put h0 (pin_of n1 n2 n3) rv
        · cases h
      · cases h
  | _, _, _, _, _, _, _, is, e2, .own fD tD hf ro fo, R, h => by
    cases is with
    | nil => simp [storesO] at h
    | cons i is =>
      unfold storesO at h
      split at h
      · rename_i e1 q1
        have R1 := flo_stores fo R q1
        rename_i pp o d _
        obtain ⟨u1, u2, u3, u4⟩ := R1.un1 (o' := o) fD tD hf (fun xs z => by cases z; cases ro) (fun c q z => by cases ro with
          | ndc => exact nobj_ne z
          | _ => (unfold LamX.CodeO at z; cases z))
        have hsame : upd H' pp o = H' := by
          funext b
          by_cases z : b = pp
          · rw [z, upd_same, u1]
          · rw [upd_ne z]
        rw [hsame] at u4
        split at h
        · cases h
        · cases h
        · cases h
        · rename_i b0 n1 n2 n3 h0
          simp only [if_true, Option.some.injEq] at h
          subst h
          exact u4.putO h0 (pin_of n1 n2 n3) u2 fD tD u3 u1 ro
        · cases h
      · cases h
theorem flo_len : ∀ {fl : List Bool} {vs : List V} {ds : List D} {F G0 F' G0' : Hp}, Flo C pn G' F G0 F' G0' fl vs ds → vs.length = fl.length ∧ ds.length = fl.length
  | _, _, _, _, _, _, _, .nil => ⟨rfl, rfl⟩
  | _, _, _, _, _, _, _, .keep _ fo => ⟨congrArg Nat.succ (flo_len fo).1, congrArg Nat.succ (flo_len fo).2⟩
  | _, _, _, _, _, _, _, .own _ _ _ _ fo => ⟨congrArg Nat.succ (flo_len fo).1, congrArg Nat.succ (flo_len fo).2⟩
theorem parO_of {is : List Nat} {D : Ends} {σ : St} {H : Hp} (q : tS C (.parO is fl xs) D σ H) : ∃ (T : List V → Hp → Prop), tP C fl xs σ H T ∧ ∀ vs H1, T vs H1 → vs.length = fl.length ∧ D.nx (setsV σ is vs) H1 ∧ ∀ pp, H1 pp = none → D.nx (setsV σ is vs) (upd H1 pp (.tup vs)) := by
  obtain ⟨F, G0, G, pn, e, o, R, he, k⟩ := q
  unfold ex at he
  split at he
  · rename_i ds e1 q1
    split at he
    · rename_i e2 q2
      cases he
      refine ⟨fun vs H1 => vs.length = fl.length ∧ D.nx (setsV σ is vs) H1 ∧ ∀ pp, H1 pp = none → D.nx (setsV σ is vs) (upd H1 pp (.tup vs)), ⟨F, G0, G, pn, e, ds, e1, R, q1, fun vs F1 G01 G1 H1 R1 s1 fo => ⟨(flo_len fo).1, k _ G1 H1 (flo_stores fo R1 q2) s1, fun pp hp => ?_⟩⟩, fun vs H1 h => h⟩
      have R2 := R1.grow (grow_own (o := .tup vs) R1.gh R1.tabs hp)
      exact k _ G1 _ (flo_stores fo R2 q2) s1
    · cases he
  · cases he
theorem cs_parO2 {i j : Nat} {nx ny : Str} {px py pt : Pos} {kt k2 : Nat} {pt2 : Pos} (hc : X.calm = true) (hN : X.N.Nodup) (hi : X.N[i]? = some nx) (hj : X.N[j]? = some ny) (hij : i ≠ j)
    (hx : X.env.scope.names.lookup nx = some .local) (hy : X.env.scope.names.lookup ny = some .local) (hf : fl.length = 2) (ha : PA X [a, b] (tP C fl xs))
    (hw : swappedStores [.Tuple [.Name nx px, .Name ny py] kt pt] (.Tuple [a, b] k2 pt2) X.env = pure (some [nx, ny]))
    (hs : swapsWithSole [.Tuple [.Name nx px, .Name ny py] kt pt] (.Tuple [a, b] k2 pt2) pos.line X.env = pure false := by rfl) :
    PS X (.Assign [.Tuple [.Name nx px, .Name ny py] kt pt] (.Tuple [a, b] k2 pt2) pos) (tS C (.parO [i, j] fl xs)) := (ps_par hc hN hi hj hij hx hy ha hw hs).imp fun D σ H q => by
  obtain ⟨T, hT, k⟩ := parO_of q
  obtain ⟨F, G0, G, pn, e, ds, e', R, he, h⟩ := hT
  refine ⟨F, G0, G, pn, e, ds, e', R, he, fun vs F1 G01 G1 H1 R1 s1 fo => ?_⟩
  obtain ⟨h1, h2, _⟩ := k vs H1 (h vs F1 G01 G1 H1 R1 s1 fo)
  match vs, h1, h2 with
  | [v, w], _, h2 =>
    refine ⟨v, w, rfl, ?_⟩
    have e1 : (σ.set i (some v)).set j (some w) = setsV σ [i, j] [v, w] := List.set_comm _ _ hij
    rw [e1]
    exact h2
  | [], h1, _ => simp [hf] at h1
  | [_], h1, _ => simp [hf] at h1
  | _ :: _ :: _ :: _, h1, _ => simp [hf] at h1
end
end Mi
namespace Mi
open PySem PySem.Spec PyProof.Rows L2 GxR
structure GrowM (C : Cfg) (p : Addr) (G H G' H' : Hp) : Prop where
  gg : Same G G'
  gh : Same G' H'
  hh : ∀ q, q ≠ p → H q ≠ none → q ∉ C.tt → H' q = H q
  go : ∀ q, q ≠ p → H q ≠ none → NT (H q) → G' q = G q
  tb : ∀ P ∈ C.tt, TabC C H' P
def spM (C : Cfg) (n : Nat) (φ : List D → Option D) : Sp := fun vs H Q _ => ∃ (G : Hp) (ws : List V) (p : Addr) (o : HO) (ds : List D) (d0 d : D), vs = ws ++ [.ref p] ∧ vs.length = n ∧ Same G H ∧ (∀ P ∈ C.tt, TabC C H P ∧ G P = none) ∧ G p = none ∧ p ∉ C.tt ∧ H p = some o ∧ RepO C.K G o d0 ∧ RepL C.K G ws ds ∧ φ (ds ++ [d0]) = some d ∧
  ∀ p' o' G' H', GrowM C p G H G' H' → G' p' = none → p' ∉ C.tt → (p' = p ∨ H p' = none) → H' p' = some o' → RepO C.K G' o' d → Q (.ref p') H'
def initM (N : Nat) (ds : List D) (d0 : D) : Env' := ds.map B.im ++ (.ow d0 :: List.replicate (N - (ds.length + 1)) .un)
def runM (n N : Nat) (s : S) : List D → Option D := fun ds => match ds.getLast? with
  | some d0 => if ds.length = n then (match ex s (initM N ds.dropLast d0) with
    | some (.ro d _) => some d
    | _ => none) else none
  | none => none
section
variable {X : Cx} {C : Cfg} {F G0 G G' H H' : Hp} {pn : Pn} {σ : St} {e e' : Env'} {x y : Ex} {a b : Expr} {pos : Pos}
theorem cs_retO (ha : PE X a (tF C x)) : PS X (.Return (some a) pos) (tS C (.retO x)) := (ps_ret ha).imp fun D σ H q => by
  obtain ⟨F, G0, G, pn, e, o, R, he, k⟩ := q
  unfold ex at he
  split at he
  · rename_i d e1 q1
    cases he
    exact ⟨F, G0, G, pn, e, d, e1, R, q1, fun p o G1 H1 R1 s1 g1 f1 t1 o1 h1 r1 => k p o σ G1 H1 R1 s1 g1 f1 t1 h1 r1⟩
  · cases he
theorem cs_retV {i : Nat} (ha : PE X a (tVar i)) : PS X (.Return (some a) pos) (tS C (.retV i)) := (ps_ret ha).imp fun D σ H q => by
  obtain ⟨F, G0, G, pn, e, o, R, he, k⟩ := q
  unfold ex at he
  split at he
  · rename_i d hb
    cases he
    obtain ⟨p, o, h0, h1, h2, h3, h4, h5⟩ := R.sl i _ hb
    exact ⟨.ref p, h0, k p o σ G H R (Same.refl G) h1 h2 h3 h4 h5⟩
  · cases he
theorem Rel.moved {i : Nat} {p p' : Addr} {d0 d : D} {o' : HO} (R : Rel C F G0 G H pn σ e) (hs : σ[i]? = some (some (.ref p))) (hb : e[i]? = some (.ow d0)) (g : GrowM C p G H G' H') (gp : G' p' = none) (tp : p' ∉ C.tt) (hor : p' = p ∨ H p' = none) (hp : H' p' = some o') (ro : RepO C.K G' o' d) :
    Rel C F G0 G' H' pn (σ.set i (some (.ref p'))) (e.set i (.ow d)) := by
  have hi : i < e.length := (List.getElem?_eq_some_iff.mp hb).1
  have his : i < σ.length := by rw [R.ln]; exact hi
  obtain ⟨p1, o1, z, g1, f1, t1, h1, _⟩ := R.sl i _ hb
  rw [hs] at z
  cases z
  have fs : ∀ q, F q ≠ none → q ≠ p ∧ H q ≠ none := fun q h => by
    refine ⟨fun z => h (by rw [z]; exact f1), ?_⟩
    cases z : F q with
    | none => exact absurd z h
    | some o => rw [R.fh q o z]; exact fun z => nomatch z
  have fp : F p' = none := by
    rcases hor with rfl | hn
    · exact f1
    · exact R.fh.free hn
  have back : ∀ {j : Nat} {q : Addr}, Own (σ.set i (some (.ref p'))) (e.set i (.ow d)) j q → (j = i ∧ q = p') ∨ (j ≠ i ∧ Own σ e j q) := fun {j q} ⟨a1, b, a2, a3⟩ => by
    by_cases hj : i = j
    · subst hj
      rw [List.getElem?_set_self his] at a1
      cases a1
      exact .inl ⟨rfl, rfl⟩
    · rw [List.getElem?_set_ne hj] at a1 a2
      exact .inr ⟨fun z => hj z.symm, a1, b, a2, a3⟩
  have ownH : ∀ {j : Nat} {q : Addr}, Own σ e j q → H q ≠ none := fun {j q} o => (R.ownH o).1
  have pk : PinK σ e (σ.set i (some (.ref p'))) (e.set i (.ow d)) := PinK.set2 hb rfl
  have ow0 : Own σ e i p := ⟨hs, _, hb, rfl⟩
  have fe : ∀ q, F q ≠ none → H q = F q := fun q h => by
    cases z : F q with
    | none => exact absurd z h
    | some o => exact R.fh q o z
  refine ⟨fun q o h => ?_, g.gh, fun q h hn => by rw [g.go q (fs q h).1 (fs q h).2 (by rw [fe q h]; exact hn)]; exact R.gf q h hn, fun P hP => ⟨g.tb P hP, ?_, (R.tb P hP).2.2⟩, fun j x hx => ?_, fun j m q o1 o2 => ?_, fun j nm fs hx => ?_, fun j x hx => R.fp j x (set_fr hx (fun _ z => nomatch z)), fun j q hq => ?_, by rw [List.length_set, List.length_set]; exact R.ln⟩
  · have hF : F q ≠ none := by rw [h]; exact fun z => nomatch z
    have hne : q ∉ C.tt := fun z => by rw [(R.tb q z).2.2] at h; cases h
    rw [g.hh q (fs q hF).1 (fs q hF).2 hne]
    exact R.fh q o h
  · rw [g.go P (fun z => t1 (by rw [← z]; exact hP)) (tabG_some (R.tb P hP).1) (tabG_nt (R.tb P hP).1)]
    exact (R.tb P hP).2.1
  · by_cases hj : i = j
    · subst hj
      rw [List.getElem?_set_self hi] at hx
      cases hx
      exact ⟨p', o', List.getElem?_set_self his, gp, fp, tp, hp, ro⟩
    · rw [List.getElem?_set_ne hj] at hx
      rw [List.getElem?_set_ne hj]
      have q := R.sl j x hx
      have ow : ∀ {p2 : Addr} {o : HO} {d : D}, σ[j]? = some (some (.ref p2)) → x.isOw = true → G p2 = none → p2 ∉ C.tt → H p2 = some o → RepO C.K G o d → G' p2 = none ∧ H' p2 = some o ∧ RepO C.K G' o d := fun {p2 o d} k0 kx h1 h3 h4 h5 => by
        have hs2 : H p2 ≠ none := by rw [h4]; exact fun z => nomatch z
        have hpp : p2 ≠ p := fun z => by
          subst z
          exact hj (R.ap i j p2 ow0 ⟨k0, x, hx, kx⟩)
        exact ⟨by rw [g.go p2 hpp hs2 (repO_nt h4 h5)]; exact h1, by rw [g.hh p2 hpp hs2 h3]; exact h4, h5.mono g.gg⟩
      cases x with
      | un => trivial
      | im d2 =>
        obtain ⟨v, h1, h2⟩ := q
        exact ⟨v, h1, h2.mono g.gg⟩
      | ow d2 =>
        obtain ⟨p2, o, h0, h1, h2, h3, h4, h5⟩ := q
        obtain ⟨k1, k2, k3⟩ := ow h0 rfl h1 h3 h4 h5
        exact ⟨p2, o, h0, k1, h2, h3, k2, k3⟩
      | io d2 =>
        obtain ⟨p2, o, h0, h1, h2, h3, h4, h5⟩ := q
        obtain ⟨k1, k2, k3⟩ := ow h0 rfl h1 h3 h4 h5
        exact ⟨p2, o, h0, k1, h2, h3, k2, k3⟩
      | ob nm fs => trivial
      | fr d2 =>
        obtain ⟨p2, o, h0, h1, h2, h3⟩ := q
        have h4 := R.fh p2 o h2
        exact ⟨p2, o, h0, by rw [g.go p2 (fun z => by rw [z, f1] at h2; cases h2) (by rw [h4]; exact fun z => nomatch z) (repO_nt h4 h3)]; exact h1, h2, h3.mono g.gg⟩
  · have cross : ∀ {m : Nat}, m ≠ i → Own σ e m p' → False := fun {m} hm o => by
      rcases hor with rfl | hn
      · exact hm (R.ap m i p' o ow0)
      · exact ownH o hn
    rcases back o1 with ⟨rfl, rfl⟩ | ⟨hj, o1'⟩
    · rcases back o2 with ⟨rfl, _⟩ | ⟨hm, o2'⟩
      · rfl
      · exact (cross hm o2').elim
    · rcases back o2 with ⟨rfl, rfl⟩ | ⟨hm, o2'⟩
      · exact (cross hj o1').elim
      · exact R.ap j m q o1' o2'
  · have hj : i ≠ j := fun z => by
      subst z
      rw [List.getElem?_set_self hi] at hx
      cases hx
    rw [List.getElem?_set_ne hj] at hx
    obtain ⟨p2, k1, k2⟩ := R.ob j nm fs hx
    have hpp : p2 ≠ p := fun z => by
      subst z
      exact hj (R.ap i j p2 ow0 ⟨k1, _, hx, rfl⟩)
    exact ⟨p2, by rw [List.getElem?_set_ne hj]; exact k1, k2.keep (by rw [g.go p2 hpp k2.ne k2.nt]; exact k2.1) k2.2.1 (g.hh p2 hpp k2.ne k2.2.2.1) g.gg pk⟩
  · obtain ⟨k1, x, k2, k3⟩ := R.pi j q hq
    obtain ⟨k4, x2, k5, k6⟩ := pk j x q k2 k3 k1
    exact ⟨k4, x2, k5, k6⟩
theorem cs_mov1 {φ : List D → Option D} {k : Nat} {f : Addr} {fd : FuncData} {ps : List Str} {nm nx : Str} {i : Nat} {p p1 px cpos : Pos} (F : FnOk X.prog X.w X.K X.mg X.base CX0 k f fd ps (spM C 2 φ)) (hr : Room k X.A) (hg : Gl X nm) (hm : X.mg nm = some (.ref f)) (hk : PySem.W.keepIn X.K (.ref f) = true) (hb : Binds X.K fd ps [])
    (h : ∀ {te : TE}, PE X (.Call (.Name nm p) [a, .Name nx p1] [] cpos) te → PS X (.Assign [.Name nx px] (.Call (.Name nm p) [a, .Name nx p1] [] cpos) pos) (tAsg te (gName i))) (ha : PE X a (tE C x)) (hv : PE X (.Name nx p1) (tVar i))
    (hdb : (nm == ("__debug__" : Str)) = false := by decide) (he : starEach [a, .Name nx p1] X.env = (false, eval a X.env) :: starEach [.Name nx p1] X.env := by rfl) (he2 : starEach [.Name nx p1] X.env = (false, eval (.Name nx p1) X.env) :: starEach [] X.env := by rfl) (hpl : (backTo cpos (starEach [.Name nx p1] X.env)).any (·.1) = false := by rfl) :
    PS X (.Assign [.Name nx px] (.Call (.Name nm p) [a, .Name nx p1] [] cpos) pos) (tS C (.mov i φ [x])) := (h (pe_call F hr hg hm hk hb .nil pass0 (pa_cons ha (pa_cons hv pa_nil he2) he) hdb he hpl)).imp fun D σ H q => by
  obtain ⟨F, G0, G, pn, e, o, R, he, k⟩ := q
  unfold ex at he
  split at he
  · rename_i rs e1 q1
    split at he
    · rename_i ds e2 q2
      split at he
      · rename_i d0 hb0
        split at he
        · rename_i d hφ
          cases he
          obtain ⟨r1, e1', rs2, h1, h2, rfl⟩ := evs_cons q1
          obtain ⟨rfl, rfl⟩ := evs_nil h2
          refine ⟨F, G0, G, pn, e, r1, _, R, h1, fun v G1 H1 R1 s1 rv => ?_⟩
          obtain ⟨G2, s2, R2, r2, _⟩ := Rel.settles R1 (.cons rv .nil) q2
          obtain ⟨p0, o0, hs0, g0, f0, t0, hh0, ro0⟩ := R2.sl i _ hb0
          refine ⟨.ref p0, hs0, G2, [v], p0, o0, ds, d0, d, rfl, rfl, R2.gh, fun P hP => ⟨(R2.tb P hP).1, (R2.tb P hP).2.1⟩, g0, t0, hh0, ro0, r2, hφ, fun p' o' G3 H3 g gp tp hor hp ro => ?_⟩
          exact k _ G3 H3 (R2.moved hs0 hb0 g gp tp hor hp ro) ((s1.trans s2).trans g.gg)
        · cases he
      · cases he
    · cases he
  · cases he
end
section
variable {P : Program} {w : World} {K : Frag} {mg : Str → Option Value} {base : Heap} {C : Cfg} {nm qual : Str} {params : Arguments} {body : List Stmt} {scope : Scope} {f : Addr} {fd : FuncData} {N ps : List Str} {k : Nat} {s : S}
theorem fnM_of (F : FunD K nm qual params body scope [] [] f fd) (S : FnScope N ps scope) (hK : C.K = K) (hb : ∀ (cdv : Value) (A : Around) (outer : List Env) (s0 : Shared) (H : Hp) (E : XK), (∀ oc od osl fd', K.lookup f = some ⟨oc, od, .func fd', osl⟩ → fd'.code = cdv) → Room k (A.deeper (envOfC qual scope s0.heap.objs.size f cdv)) →
      PSs (cxOf CX0 P w K mg base N qual scope f cdv A outer s0 H E).nox body (tS C s)) : FnOk P w K mg base CX0 (k + 1) f fd ps (spM C ps.length (runM ps.length N.length s)) := by
  obtain ⟨oc, od, dV, kV, doc, pm, an, cdv, ct, osl, rfl, lk, hcd, _, _⟩ := F.ex
  refine fn_of lk hcd S (fun vs H Q E h => ?_) fun A outer s0 H vs Q E hr hsp => ?_
  · obtain ⟨_, _, _, _, _, _, _, _, h, _⟩ := h
    exact h
  · refine ⟨_, (hb cdv A outer s0 H E (fun oc2 od2 osl2 fd2 h => by rw [lk] at h; cases h; rfl) hr).nox, ?_⟩
    obtain ⟨G, ws, p0, o0, ds, d0, d, rfl, hl, gh, tb, g0, t0, h0, r0, rl, hφ, hQ⟩ := hsp
    unfold runM at hφ
    rw [List.getLast?_concat, List.dropLast_concat] at hφ
    dsimp only at hφ
    split at hφ
    · rename_i hn
      have lw : ws.length = ds.length := rl.length
      have R : Rel C (fun p => if p ∈ C.tt ∨ p = p0 then none else H p) G G H [] (L2.start N (ws ++ [.ref p0])) (initM N.length ds d0) := by
        have st : ∀ i, i < ws.length → (L2.start N (ws ++ [V.ref p0]))[i]? = (ws[i]?).map some := fun i hi => by
          unfold L2.start
          rw [List.getElem?_append_left (by rw [List.length_map, List.length_append]; omega), List.getElem?_map, List.getElem?_append_left hi]
        have st0 : (L2.start N (ws ++ [V.ref p0]))[ws.length]? = some (some (.ref p0)) := by
          unfold L2.start
          rw [List.getElem?_append_left (by rw [List.length_map, List.length_append]; simp), List.getElem?_map, List.getElem?_append_right (Nat.le_refl _), Nat.sub_self]
          rfl
        have hle : ∀ i, i < ds.length → (initM N.length ds d0)[i]? = (ds[i]?).map B.im := fun i hi => by
          unfold initM
          rw [List.getElem?_append_left (by rw [List.length_map]; exact hi), List.getElem?_map]
        have heq : (initM N.length ds d0)[ds.length]? = some (.ow d0) := by
          unfold initM
          rw [List.getElem?_append_right (by rw [List.length_map]; exact Nat.le_refl _), List.length_map, Nat.sub_self]
          rfl
        have hge : ∀ i b, ds.length < i → (initM N.length ds d0)[i]? = some b → b = .un := fun i b hi h => by
          unfold initM at h
          rw [List.getElem?_append_right (by rw [List.length_map]; omega), List.length_map] at h
          obtain ⟨m, hm⟩ : ∃ m, i - ds.length = m + 1 := ⟨i - ds.length - 1, by omega⟩
          rw [hm, List.getElem?_cons_succ] at h
          exact (List.mem_replicate.mp (List.mem_of_getElem? h)).2
        have old : Olds (initM N.length ds d0) := Olds.app Olds.ims (Olds.cons rfl Olds.uns)
        have ow : ∀ (i : Nat) (b : B), (initM N.length ds d0)[i]? = some b → b.isOw = true → i = ds.length := fun i b h1 h2 => by
          rcases Nat.lt_trichotomy i ds.length with z | z | z
          · rw [hle i z] at h1
            cases q : ds[i]? with
            | none => rw [q] at h1; cases h1
            | some d => rw [q] at h1; cases h1; cases h2
          · exact z
          · rw [hge i b z h1] at h2; cases h2
        refine ⟨fun b o h => ?_, gh, fun _ _ _ => rfl, fun P hP => ⟨(tb P hP).1, (tb P hP).2, if_pos (.inl hP)⟩, fun i b h => ?_, fun i j p ⟨_, b, h1, h2⟩ ⟨_, b', h3, h4⟩ => by rw [ow i b h1 h2, ow j b' h3 h4], fun i nm fs h => (old_ob old h).elim, fun i d h => (old_fr old h).elim, fun i p h => (nomatch h), ?_⟩
        · have h' : (if b ∈ C.tt ∨ b = p0 then none else H b) = some o := h
          split at h'
          · cases h'
          · exact h'
        · rcases Nat.lt_trichotomy i ds.length with z | z | z
          · rw [hle i z] at h
            cases q : ds[i]? with
            | none => rw [q] at h; cases h
            | some d =>
              rw [q] at h
              cases h
              obtain ⟨v, h1, h2⟩ := rl.getD q
              exact ⟨v, by rw [st i (by omega), h1]; rfl, h2⟩
          · subst z
            rw [heq] at h
            cases h
            exact ⟨p0, o0, by rw [← lw]; exact st0, g0, if_pos (.inr rfl), t0, h0, r0⟩
          · rw [hge i b z h]
            trivial
        · unfold L2.start initM
          simp only [List.length_append, List.length_cons, List.length_map, List.length_replicate, List.length_nil]
          rw [lw]
          omega
      split at hφ
      · rename_i d2 e1 hx
        cases hφ
        refine ⟨_, G, G, [], _, _, R, hx, fun p o σ' G' H' R' s' gp fp tp hp ro => hQ p o G' H' ⟨s', R'.gh, fun q hq hq2 ht => ?_, fun q hq hq2 hn => ?_, R'.tabs⟩ gp tp ?_ hp ro⟩
        · cases z : H q with
          | none => exact absurd z hq2
          | some o => exact R'.fh q o ((if_neg (fun z => z.elim ht hq)).trans z)
        · by_cases ht : q ∈ C.tt
          · rw [(R'.tb q ht).2.1, (tb q ht).2]
          · exact R'.gf q (fun z => hq2 ((if_neg (fun z => z.elim ht hq)).symm.trans z)) (fun xs z => hn xs ((if_neg (fun z => z.elim ht hq)).symm.trans z))
        · by_cases z : p = p0
          · exact .inl z
          · exact .inr ((if_neg (fun w => w.elim tp z)).symm.trans fp)
      · cases hφ
    · cases hφ
end
end Mi
namespace Mi
open PySem PySem.Spec PyProof.Rows L2 GxR
section
variable {X : Cx} {pins : List (Addr × Obj)} {σ : L2.St} {H : Hp} {s : Shared}
end
section
variable {X : Cx} {C : Cfg} {F G0 G G' H H' : Hp} {pn : Pn} {σ : St} {e e' : Env'} {x y : Ex} {o : Expr} {es : List Expr}
end
end Mi
namespace Mi
open PySem PySem.Spec PyProof.Rows L2 GxR
end Mi
namespace Mi
open PySem PySem.Spec PyProof.Rows L2 GxR
mutual
theorem py_inj : ∀ (n : Nat) (a b : D), a.shp n = true → b.shp n = true → a.py = b.py → a = b
  | n, .non, b, _, h2, e => by cases b <;> simp [D.py, D.shp] at e h2 ⊢
  | n, .bl x, b, _, h2, e => by cases b <;> simp [D.py, D.shp] at e h2 ⊢ <;> exact e
  | n, .int x, b, _, h2, e => by cases b <;> simp [D.py, D.shp] at e h2 ⊢ <;> exact e
  | n, .str x, b, _, h2, e => by cases b <;> simp [D.py] at e ⊢ <;> exact e
  | 0, .lst x, b, h1, _, _ => by simp [D.shp] at h1
  | 0, .tup x, b, h1, _, _ => by simp [D.shp] at h1
  | n + 1, .lst x, b, h1, h2, e => by
    cases b <;> simp only [D.py, reduceCtorEq, PyData.list.injEq] at e
    rename_i y
    simp only [D.shp] at h1 h2
    rw [py_injL n x y h1 h2 e]
  | n + 1, .tup x, b, h1, h2, e => by
    cases b <;> simp only [D.py, reduceCtorEq, PyData.tuple.injEq] at e
    rename_i y
    simp only [D.shp] at h1 h2
    rw [py_injL n x y h1 h2 e]
  | n, .dic _ _, b, h1, _, _ => by simp [D.shp] at h1
  | n, .scr _, b, h1, _, _ => by simp [D.shp] at h1
  | n, .fn _, b, h1, _, _ => by simp [D.shp] at h1
  | n, .ptp _, b, h1, _, _ => by simp [D.shp] at h1
  | n, .ndc _ _, b, h1, _, _ => by simp [D.shp] at h1
theorem py_injL : ∀ (n : Nat) (a b : List D), D.shpL n a = true → D.shpL n b = true → D.pyL a = D.pyL b → a = b
  | n, [], b, _, _, e => by cases b <;> simp [D.pyL] at e ⊢
  | n, x :: a, b, h1, h2, e => by
    cases b with
    | nil => simp [D.pyL] at e
    | cons y b =>
      simp only [D.pyL, List.cons.injEq] at e
      simp only [D.shpL, Bool.and_eq_true] at h1 h2
      rw [py_inj n x y h1.1 h2.1 e.1, py_injL n a b h1.2 h2.2 e.2]
end
def dlt (a b : D) : Bool := W.dataLt a.py b.py
def minL (x : D) (l : List D) : D := l.foldl (fun a y => if dlt y a then y else a) x
theorem minL_py : ∀ (l : List D) (x : D), (minL x l).py = W.minD x.py (l.map D.py)
  | [], _ => rfl
  | y :: l, x => by
    have := minL_py l (if dlt y x then y else x)
    unfold minL W.minD at *
    rw [List.foldl_cons, this, List.map_cons, List.foldl_cons]
    congr 1
    by_cases hd : dlt y x = true
    · rw [if_pos hd]; unfold dlt at hd; rw [if_pos hd]
    · rw [if_neg hd]; unfold dlt at hd; rw [if_neg hd]
theorem minL_mem : ∀ (l : List D) (x : D), minL x l ∈ x :: l
  | [], _ => List.mem_cons_self
  | y :: l, x => by
    have := minL_mem l (if dlt y x then y else x)
    unfold minL at *
    rw [List.foldl_cons]
    rcases List.mem_cons.mp this with h | h
    · rw [h]; split
      · exact List.mem_cons_of_mem _ List.mem_cons_self
      · exact List.mem_cons_self
    · exact List.mem_cons_of_mem _ (List.mem_cons_of_mem _ h)
section
variable {X : Cx} {C : Cfg}
def rBest (K : Frag) (g : PyData → List PyData → PyData) : List V → Hp → VK → Prop := fun vs H Q => ∃ (a : Addr) (p : V × D) (ps : List (V × D)), vs = [.ref a] ∧ (SqL K H a ((p :: ps).map (·.1)) ∨ SqT K H a ((p :: ps).map (·.1))) ∧ (∀ q ∈ p :: ps, Dp K H q.1 q.2.py ∧ q.2.shp 16 = true) ∧ W.AlikeAll ((p :: ps).map fun q => q.2.py) ∧
  ∀ q ∈ p :: ps, q.2.py = g p.2.py (ps.map fun q => q.2.py) → Q q.1 H
theorem dps_of {K : Frag} {H : Hp} : ∀ {ps : List (V × D)}, (∀ q ∈ ps, Dp K H q.1 q.2.py) → DpAll K H (ps.map (·.1)) (ps.map fun q => q.2.py)
  | [], _ => .nil
  | p :: ps, h => .cons (h p List.mem_cons_self) (dps_of fun q hq => h q (List.mem_cons_of_mem _ hq))
theorem depths_of : ∀ {ps : List (V × D)}, (∀ q ∈ ps, q.2.shp 16 = true) → PyData.depthAll (ps.map fun q => q.2.py) ≤ 16
  | [], _ => by simp [PyData.depthAll]
  | p :: ps, h => by
    have h1 := (shp_can 16 p.2 (h p List.mem_cons_self)).2
    have h2 := depths_of (ps := ps) fun q hq => h q (List.mem_cons_of_mem _ hq)
    simp only [List.map_cons, PyData.depthAll]
    omega
theorem vals_at : ∀ {ps : List (V × D)} {us : List Value}, Vals (ps.map (·.1)) us → ∀ (i : Nat) (v : Value), us[i]? = some v → ∃ q ∈ ps, RelV q.1 v
  | [], us, h, i, v, e => by cases h; simp at e
  | p :: ps, us, h, i, v, e => by
    cases h with
    | cons a b =>
      cases i with
      | zero => simp only [List.getElem?_cons_zero, Option.some.injEq] at e; subst e; exact ⟨p, List.mem_cons_self, a⟩
      | succ i =>
        rw [List.getElem?_cons_succ] at e
        obtain ⟨q, hq, r⟩ := vals_at b i v e
        exact ⟨q, List.mem_cons_of_mem _ hq, r⟩
theorem cr_minB (hc : X.calm = true) (hu : X.A.units + 100 < cLine) : CallR X (.builtin "min") (rBest X.K W.minD) := by
  intro pins s σ H vs us Q I r h
  obtain ⟨a, p, ps, rfl, hs, hp, hal, q⟩ := h
  rw [Vals.ref1 r]
  have hd := depths_of (ps := p :: ps) fun q hq => (hp q hq).2
  have fin : ∀ {its : List Value}, Vals ((p :: ps).map (·.1)) its → ∀ {i : Nat} {v : Value} {h' : Heap} {tk : Nat} {bs : List Addr}, its.toArray[i]? = some v → Reads h' v (W.minD p.2.py (ps.map fun q => q.2.py)) bs → (∀ b o, s.heap.get? b = some o → h'.get? b = some o) → EP X pins σ Q v { s with heap := h', toks := tk } := fun {its} rv {i v h' tk bs} hi hr hk => by
    obtain ⟨z, hz, rz⟩ := vals_at rv i v (by simpa using hi)
    obtain ⟨as, hr2⟩ := Dp.reads I _ _ v (hp z hz).1 rz
    have e := (Reads.unique (Reads.keeps hk hr2) _ _ hr).1
    exact ⟨z.1, H, I.kept hk, rz, q z hz e⟩
  rcases hs with hs | hs
  · obtain ⟨its, rv, hl, _⟩ := I.list hs
    obtain ⟨as, hr⟩ := Dp.readsAll I _ _ its (dps_of fun q hq => (hp q hq).1) rv
    exact W.min_list_data (I.ok.hd hc) hl.isList (by simpa using hr) hal (by rw [show (p.2.py :: ps.map fun q => q.2.py) = (p :: ps).map fun q => q.2.py from rfl]; omega) fun i v h' tk bs hi hr hk => fin rv hi hr hk
  · obtain ⟨its, rv, hl, _⟩ := I.tuple hs
    obtain ⟨as, hr⟩ := Dp.readsAll I _ _ its (dps_of fun q hq => (hp q hq).1) rv
    exact W.min_tuple_data (I.ok.hd hc) hl (by simpa using hr) hal (by rw [show (p.2.py :: ps.map fun q => q.2.py) = (p :: ps).map fun q => q.2.py from rfl]; omega) fun i v h' tk bs hi hr hk => fin rv hi hr hk
def bestL (f : D → List D → D) : List D → Option D
  | [] => none
  | x :: r => if x.same x = true ∧ r.all (fun y => x.same y) = true ∧ (x :: r).all (fun y => y.shp 16) = true then some (f x r) else none
def bestF (f : D → List D → D) : List D → Option D
  | [.lst l] => bestL f l
  | [.tup l] => bestL f l
  | _ => none
theorem bestF_ok (hK : C.K.f = X.K) {f : D → List D → D} {g : PyData → List PyData → PyData} (hf : ∀ l x, (f x l).py = g x.py (l.map D.py)) (hm : ∀ l x, f x l ∈ x :: l) : OkN C (rBest X.K g) (bestF f) := fun vs ds d G H Q s t r e k => by
  have main : ∀ (a : Addr) (xs : List V) (l : List D), bestL f l = some d → RepL C.K G xs l → (SqL X.K H a xs ∨ SqT X.K H a xs) → rBest X.K g [.ref a] H Q := fun a xs l hl rr hsq => by
    cases l with
    | nil => cases hl
    | cons x l =>
      simp only [bestL] at hl
      by_cases hz : x.same x = true ∧ l.all (fun y => x.same y) = true ∧ (x :: l).all (fun y => y.shp 16) = true
      case neg => rw [if_neg hz] at hl; cases hl
      rw [if_pos hz] at hl
      obtain ⟨h2, h3, h4⟩ := hz
      cases hl
      have hs : ∀ a ∈ x :: l, x.same a = true := fun a ha => by
        rcases List.mem_cons.mp ha with rfl | ha
        · exact h2
        · exact List.all_eq_true.mp h3 a ha
      obtain ⟨z1, z2, z3⟩ := repL_zip rr
      cases hps : xs.zip (x :: l) with
      | nil => rw [hps] at z2; simp at z2
      | cons p ps =>
        rw [hps] at z1 z2 z3
        have e2 : ((p :: ps).map fun q => q.2.py) = (x :: l).map D.py := by
          have e0 : ((p :: ps).map fun q => q.2.py) = ((p :: ps).map (·.2)).map D.py := by rw [List.map_map]; rfl
          rw [e0, z2]
        have hp2 : ∀ q ∈ p :: ps, q.2 ∈ x :: l := fun q hq => by rw [← z2]; exact List.mem_map.mpr ⟨q, hq, rfl⟩
        have hsh : ∀ q ∈ p :: ps, q.2.shp 16 = true := fun q hq => List.all_eq_true.mp h4 _ (hp2 q hq)
        have ex : p.2 = x ∧ ps.map (·.2) = l := by simpa using z2
        refine ⟨a, p, ps, rfl, by rw [z1]; exact hsq, fun q hq => ⟨by rw [← hK]; exact rep_dp 16 _ _ (hsh q hq) ((z3 q hq).mono s), hsh q hq⟩, ?_, fun q hq hqe => ?_⟩
        · rw [e2]
          refine ⟨fun d hd d' hd' => ?_, fun d hd => ?_⟩
          · obtain ⟨a, ha, rfl⟩ := List.mem_map.mp hd
            obtain ⟨b, hb, rfl⟩ := List.mem_map.mp hd'
            exact same_alike x a b (hs a ha) (hs b hb)
          · obtain ⟨a, ha, rfl⟩ := List.mem_map.mp hd
            have := hs a ha
            cases x <;> cases a <;> simp_all [D.same, D.py]
        · have e3 : (ps.map fun q => q.2.py) = l.map D.py := by
            have e0 : (ps.map fun q => q.2.py) = (ps.map (·.2)).map D.py := by rw [List.map_map]; rfl
            rw [e0, ex.2]
          rw [e3, ex.1, ← hf] at hqe
          have e4 := py_inj 16 _ _ (hsh q hq) (List.all_eq_true.mp h4 _ (hm l x)) hqe
          exact res_flat s t k (e4 ▸ z3 q hq)
  unfold bestF at e
  split at e
  · rename_i l
    obtain ⟨v, rfl, rv⟩ := repTs_one r
    cases rv with
    | lst q rr => exact main _ _ l e rr (.inl (SqL.of q))
  · rename_i l
    obtain ⟨v, rfl, rv⟩ := repTs_one r
    cases rv with
    | tup g q rr => exact main _ _ l e rr (.inr (SqT.of q))
  · cases e
def rOr (r1 r2 : List V → Hp → VK → Prop) : List V → Hp → VK → Prop := fun vs H Q => r1 vs H Q ∨ r2 vs H Q
theorem cr_or {c : Value} {r1 r2 : List V → Hp → VK → Prop} (h1 : CallR X c r1) (h2 : CallR X c r2) : CallR X c (rOr r1 r2) := fun pins s σ H vs us Q I r h => by
  rcases h with h | h
  · exact h1 pins s σ H vs us Q I r h
  · exact h2 pins s σ H vs us Q I r h
def orF (f g : List D → Option D) (ds : List D) : Option D := match f ds with
  | some d => some d
  | none => g ds
theorem orF_ok {r1 r2 : List V → Hp → VK → Prop} {f g : List D → Option D} (h1 : OkN C r1 f) (h2 : OkN C r2 g) : OkN C (rOr r1 r2) (orF f g) := fun vs ds d G H Q s t r e k => by
  unfold orF at e
  split at e
  · rename_i d' hf
    cases e
    exact .inl (h1 vs ds d G H Q s t r hf k)
  · exact .inr (h2 vs ds d G H Q s t r e k)
abbrev minAF := orF minIF (bestF minL)
theorem cr_minA (hc : X.calm = true) (hu : X.A.units + 100 < cLine) : CallR X (.builtin "min") (rOr (rNums X.K fun n ns => ns.foldl min n) (rBest X.K W.minD)) := cr_or (cr_minI hc hu) (cr_minB hc hu)
theorem minAF_ok (hK : C.K.f = X.K) : OkN C (rOr (rNums X.K fun n ns => ns.foldl min n) (rBest X.K W.minD)) minAF := orF_ok numsF_ok (bestF_ok hK minL_py minL_mem)
end
end Mi
namespace Mi
open PySem PySem.Spec PyProof.Rows L2 GxR
section
variable {X : Cx} {C : Cfg} {o c : Expr} {x : Ex} {es : List Expr} {xs : List Ex}
end
end Mi
namespace Mi
open PySem PySem.Spec PyProof.Rows L2 GxR HT
section
variable {prog : Program} {w : World} {A : Around} {E : Value → Shared → Prop} {s : Shared}
end
section
variable {X : Cx} {C : Cfg} {e : Expr} {te : TE} {x : Ex} {p1 p2 p3 pos : Pos} {k : Nat}
end
end Mi
namespace Mi
open PySem PySem.Spec PyProof.Rows L2 GxR GenW
section
variable {X : Cx} {pins : List (Addr × Obj)} {σ σ0 : L2.St} {H : Hp} {s s6 : Shared} {N : List Str} {scope : Scope} {fp : List Addr} {A : Around} {code : Value}
end
section
variable {X' : Cx} {A : Around} {a : Addr} {go : Obj} {SL fp : List Addr} {σ0 : L2.St} {W : Nat → Nat → Hp → Prop} {Yl : Nat → Nat → V → Hp → Prop} {Fin : Hp → Prop} {J : It} {it : Addr} {tn : Nat → Heap → Prop} {tgx iter elt : Expr} {ifs : List Expr} {scope : Scope} {pos : Pos} {g : TG} {tt : TT} {te : TE} {vs : List Nat}
end
end Mi
namespace Mi
open PySem PySem.Spec PyProof.Rows L2 GxR GenW
section
variable {X : Cx} {pins : List (Addr × Obj)} {σ σ0 : L2.St} {H : Hp} {s : Shared} {N : List Str} {scope : Scope} {tgx iter elt : Expr} {ifs : List Expr}
end
section
variable {X' : Cx} {A : Around} {R : Result → Shared → Prop} {a : Addr} {go : Obj} {g : Nat} {fp : List Addr} {σ0 : L2.St} {W : Nat → Nat → Hp → Prop} {Qt Qf : Hp → Prop}
end
end Mi
namespace Mi
open PySem PySem.Spec PyProof.Rows L2 GxR GenW
section
variable {X : Cx} {N : List Str} {scope : Scope} {tgx iter elt : Expr} {ifs : List Expr} {c P : Addr} {gpos p pos : Pos} {wi : TI} {g : TG} {tt : TT} {te : TE} {vs : List Nat} {mk : L2.St → L2.St} {k : Nat}
end
end Mi
namespace Mi
open PySem PySem.Spec PyProof.Rows L2 GxR GenW
section
variable {C : Cfg} {F G0 G G' H H' : Hp} {pn : Pn} {σ : L2.St} {e e' : Env'} {v : V} {d : D}
end
section
variable {X : Cx} {C : Cfg} {N : List Str} {scope : Scope} {tgx iter elt : Expr} {ifs : List Expr} {c P : Addr} {gpos p pos : Pos} {k : Nat}
variable {g : List D → Option (List D)} {xs as : List Ex} {caps : List Nat} {nt n : Nat} {tg : Tg} {cs : List Ex} {x : Ex}
end
end Mi
namespace Mi
open PySem PySem.Spec PyProof.Rows L2 GxR
section
variable {X : Cx} {C : Cfg} {a : Expr} {pos : Pos}
theorem ce_callBfun {id : String} {r : List V → Hp → VK → Prop} {f : List D → Option D} {nm : Str} {p : Pos} {es : List Expr} {xs : List Ex} (hc : CallR X (.builtin id) r) (ok : OkN C r f) (hg : Gl X nm) (hm : X.mg nm = some (.builtin id)) (ha : PA X (a :: es) (tA C xs))
    (hdb : (nm == ("__debug__" : Str)) = false := by decide)
    (he : starEach (a :: es) X.env = (false, eval a X.env) :: starEach es X.env := by rfl) (hpl : (backTo pos (starEach es X.env)).any (·.1) = false := by rfl) : PE X (.Call (.Name nm p) (a :: es) [] pos) (tE C (.op f xs)) :=
  (pe_callBfun hc hg hm ha hdb he hpl).imp fun σ H Q q => tE_op ok q
end
end Mi
namespace Mi
open PySem PySem.Spec PyProof.Rows L2 GxR
def rDat (K : Frag) (g : PyData → PyData → Bool) : R2 := fun x y H Q => ∃ a b : D, Dp K H x a.py ∧ Dp K H y b.py ∧ a.shp 16 = true ∧ b.shp 16 = true ∧ W.alike a.py b.py = true ∧ a.py ≠ .none ∧ Q (.bl (g a.py b.py)) H
def datF (g : D → D → Bool) : List D → Option D
  | [a, b] => if (a.same a && (a.same b && (a.shp 16 && b.shp 16))) = true then some (.bl (g a b)) else none
  | _ => none
section
variable {X : Cx} {C : Cfg}
theorem dat_go {op : CmpOp} {g : PyData → PyData → Bool} (hu : X.A.units + 64 < cLine)
    (h : ∀ {s : Shared} {a b : Value} {da db : PyData} {as bs : List Addr} {Q : Value → Shared → Prop}, Reads s.heap a da as → Reads s.heap b db bs → W.alike da db = true → da ≠ .none → X.A.units + min da.depth db.depth < cLine → Q (.bool (g da db)) s → wpAny (model X.prog X.w) X.A (compareOp op a b) Q X.xe s) : OpR X (compareOp op) (rDat X.K g) := by
  intro pins s σ H x y v u Q I rx ry ⟨a, b, ha, hb, sa, sb, al, hn, q⟩
  obtain ⟨as, ra⟩ := Dp.reads I _ _ v ha rx
  obtain ⟨bs, rb⟩ := Dp.reads I _ _ u hb ry
  have hd := (shp_can 16 a sa).2
  exact h ra rb al hn (by omega) ⟨.bl _, H, I, rfl, q⟩
theorem op_ltD (hu : X.A.units + 64 < cLine) : OpR X (compareOp .Lt) (rDat X.K fun a b => W.dataLt a b) := dat_go hu fun ra rb al hn hu hq => W.lt_data ra rb al hn hu hq
theorem op_gtD (hu : X.A.units + 64 < cLine) : OpR X (compareOp .Gt) (rDat X.K fun a b => W.dataLt b a) := dat_go hu fun ra rb al hn hu hq => W.gt_data ra rb al hn hu hq
theorem op_leD (hu : X.A.units + 64 < cLine) : OpR X (compareOp .LtE) (rDat X.K fun a b => !W.dataLt b a) := dat_go hu fun ra rb al hn hu hq => W.le_data ra rb al hn hu hq
theorem op_geD (hu : X.A.units + 64 < cLine) : OpR X (compareOp .GtE) (rDat X.K fun a b => !W.dataLt a b) := dat_go hu fun ra rb al hn hu hq => W.ge_data ra rb al hn hu hq
theorem datF_ok (hK : C.K.f = X.K) {g : PyData → PyData → Bool} : Ok2 C (rDat X.K g) (datF fun a b => g a.py b.py) := fun x y a b d G H Q s t r1 r2 e k => by
  unfold datF at e
  dsimp only at e
  by_cases hz : (a.same a && (a.same b && (a.shp 16 && b.shp 16))) = true
  · rw [if_pos hz] at e
    cases e
    simp only [Bool.and_eq_true] at hz
    obtain ⟨h1, h2, h3, h4⟩ := hz
    refine ⟨a, b, by rw [← hK]; exact rep_dp 16 a x h3 (r1.all s), by rw [← hK]; exact rep_dp 16 b y h4 (r2.all s), h3, h4, same_alike a a b h1 h2, ?_, res_flat s t k (.bl _)⟩
    cases a <;> simp [D.same, D.py] at h1 ⊢
  · rw [if_neg hz] at e
    cases e
theorem orF_ok2 {r r' : R2} {f g : List D → Option D} (h : Ok2 C r f) (h' : Ok2 C r' g) : Ok2 C (fun x y H Q => r x y H Q ∨ r' x y H Q) (orF f g) := fun x y a b d G H Q s t r1 r2 e k => by
  unfold orF at e
  split at e
  · rename_i w q
    cases e
    exact .inl (h x y a b _ G H Q s t r1 r2 q k)
  · exact .inr (h' x y a b d G H Q s t r1 r2 e k)
theorem datF_two {g : D → D → Bool} : Two (datF g) := fun ds d h => by
  unfold datF at h
  split at h <;> first | rfl | cases h
theorem datF_boo {g : D → D → Bool} : Boo (datF g) := fun ds d h => by
  unfold datF at h
  split at h
  · split at h
    · cases h; exact ⟨_, rfl⟩
    · cases h
  · cases h
theorem orF_two {f g : List D → Option D} (h : Two f) (h' : Two g) : Two (orF f g) := fun ds d q => by
  unfold orF at q
  split at q
  · rename_i w z
    exact h ds w z
  · exact h' ds d q
theorem orF_boo {f g : List D → Option D} (h : Boo f) (h' : Boo g) : Boo (orF f g) := fun ds d q => by
  unfold orF at q
  split at q
  · rename_i w z
    cases q
    exact h ds _ z
  · exact h' ds d q
abbrev ltG := orF ltF (datF fun a b => W.dataLt a.py b.py)
abbrev gtG := orF gtF (datF fun a b => W.dataLt b.py a.py)
abbrev leG := orF leF (datF fun a b => !W.dataLt b.py a.py)
abbrev geG := orF geF (datF fun a b => !W.dataLt a.py b.py)
theorem cmpG_two {f g} : Two (orF (cmpF f g) (datF h)) := orF_two cmpF_two datF_two
theorem cmpG_boo {f g} : Boo (orF (cmpF f g) (datF h)) := orF_boo cmpF_boo datF_boo
theorem ltG_ok (hK : C.K.f = X.K) : Ok2 C (fun x y H Q => rCmpA (fun i j => decide (i < j)) (fun a b => decide (a < b)) x y H Q ∨ rDat X.K (fun a b => W.dataLt a b) x y H Q) ltG := orF_ok2 cmpF_ok (datF_ok hK)
theorem gtG_ok (hK : C.K.f = X.K) : Ok2 C (fun x y H Q => rCmpA (fun i j => decide (j < i)) (fun a b => decide (b < a)) x y H Q ∨ rDat X.K (fun a b => W.dataLt b a) x y H Q) gtG := orF_ok2 cmpF_ok (datF_ok hK (g := fun a b => W.dataLt b a))
theorem leG_ok (hK : C.K.f = X.K) : Ok2 C (fun x y H Q => rCmpA (fun i j => decide (i ≤ j)) (fun a b => !decide (b < a)) x y H Q ∨ rDat X.K (fun a b => !W.dataLt b a) x y H Q) leG := orF_ok2 cmpF_ok (datF_ok hK (g := fun a b => !W.dataLt b a))
theorem geG_ok (hK : C.K.f = X.K) : Ok2 C (fun x y H Q => rCmpA (fun i j => decide (j ≤ i)) (fun a b => !decide (a < b)) x y H Q ∨ rDat X.K (fun a b => !W.dataLt a b) x y H Q) geG := orF_ok2 cmpF_ok (datF_ok hK (g := fun a b => !W.dataLt a b))
theorem op_ltG (hu : X.A.units + 64 < cLine) : OpR X (compareOp .Lt) (fun x y H Q => rCmpA (fun i j => decide (i < j)) (fun a b => decide (a < b)) x y H Q ∨ rDat X.K (fun a b => W.dataLt a b) x y H Q) := op_ltA.or (op_ltD hu)
theorem op_gtG (hu : X.A.units + 64 < cLine) : OpR X (compareOp .Gt) (fun x y H Q => rCmpA (fun i j => decide (j < i)) (fun a b => decide (b < a)) x y H Q ∨ rDat X.K (fun a b => W.dataLt b a) x y H Q) := op_gtA.or (op_gtD hu)
theorem op_leG (hu : X.A.units + 64 < cLine) : OpR X (compareOp .LtE) (fun x y H Q => rCmpA (fun i j => decide (i ≤ j)) (fun a b => !decide (b < a)) x y H Q ∨ rDat X.K (fun a b => !W.dataLt b a) x y H Q) := op_leA.or (op_leD hu)
theorem op_geG (hu : X.A.units + 64 < cLine) : OpR X (compareOp .GtE) (fun x y H Q => rCmpA (fun i j => decide (j ≤ i)) (fun a b => !decide (a < b)) x y H Q ∨ rDat X.K (fun a b => !W.dataLt a b) x y H Q) := op_geA.or (op_geD hu)
end
end Mi
namespace Mi
open PySem PySem.Spec PyProof.Rows L2 GxR
def keyK : D → Bool
  | .int _ => true
  | .str _ => true
  | _ => false
def keyT : D → Bool
  | .tup l => l.all keyK
  | _ => false
def isTK : List D → Bool
  | .non :: _ => true
  | _ => false
def keysD : List D → List D
  | .non :: ks => ks
  | ks => ks
def keyB (ks : List D) (k : D) : Bool := if isTK ks then keyT k else keyK k
def lookD (ks vs : List D) (x : D) : Option D := ((ks.zip vs).find? fun p => p.1.eqv x).map (·.2)
def putKs (ks : List D) (x : D) : List D := if ks.any (fun k => k.eqv x) then ks else ks ++ [x]
def putVs (ks vs : List D) (x y : D) : List D := if ks.any (fun k => k.eqv x) then (ks.zip vs).map (fun p => if p.1.eqv x then y else p.2) else vs ++ [y]
def rowK (t : Bool) (ks : List D) : List D := if t then .non :: ks else ks
def keyTD (l : List Key) : D := .tup (l.map keyD)
theorem isTK_K {κ : Type} {kvs : List (Key × κ)} : isTK (kvs.map fun q => keyD q.1) = false ∧ keysD (kvs.map fun q => keyD q.1) = kvs.map fun q => keyD q.1 := by
  cases kvs with
  | nil => exact ⟨rfl, rfl⟩
  | cons p kvs =>
    obtain ⟨k, v⟩ := p
    cases k <;> exact ⟨rfl, rfl⟩
theorem eqv_keyD : ∀ a b : Key, (keyD a).eqv (keyD b) = decide (a = b)
  | .inl i, .inl j => by
    show (D.int i).eqv (.int j) = _
    simp only [D.eqv]
    rw [Bool.eq_iff_iff]
    simp
  | .inl i, .inr y => by
    show (D.int i).eqv (.str _) = _
    simp [D.eqv]
  | .inr x, .inl j => by
    show (D.str _).eqv (.int j) = _
    simp [D.eqv]
  | .inr x, .inr y => by
    show (D.str _).eqv (.str _) = _
    simp only [D.eqv]
    rw [Bool.eq_iff_iff]
    simp only [beq_iff_eq, decide_eq_true_eq, Sum.inr.injEq]
    constructor
    · intro e
      obtain ⟨x⟩ := x
      obtain ⟨y⟩ := y
      congr 1
      exact Array.toList_inj.mp e
    · intro e
      rw [e]
theorem eqv_keyL : ∀ a b : List Key, D.eqvL (a.map keyD) (b.map keyD) = decide (a = b)
  | [], [] => by simp [D.eqvL]
  | [], y :: b => by simp [D.eqvL]
  | x :: a, [] => by simp [D.eqvL]
  | x :: a, y :: b => by
    rw [List.map_cons, List.map_cons]
    simp only [D.eqvL]
    rw [eqv_keyD, eqv_keyL a b, Bool.eq_iff_iff]
    simp
theorem eqv_keyTD (a b : List Key) : (keyTD a).eqv (keyTD b) = decide (a = b) := by
  unfold keyTD
  simp only [D.eqv]
  exact eqv_keyL a b
section
variable {K : FragW} {G H : Hp}
theorem lookD_pos {k x d : D} {ks vs : List D} (h : k.eqv x = true) : lookD (k :: ks) (d :: vs) x = some d := by
  unfold lookD
  rw [List.zip_cons_cons, List.find?_cons_of_pos (p := fun p : D × D => p.1.eqv x) (a := (k, d)) h]
  rfl
theorem lookD_neg {k x d : D} {ks vs : List D} (h : k.eqv x = false) : lookD (k :: ks) (d :: vs) x = lookD ks vs x := by
  unfold lookD
  rw [List.zip_cons_cons, List.find?_cons_of_neg (p := fun p : D × D => p.1.eqv x) (a := (k, d)) (by simp [h])]
theorem look_rep {κ : Type} [DecidableEq κ] {f : κ → D} (hf : ∀ a b, (f a).eqv (f b) = decide (a = b)) (k : κ) : ∀ {kvs : List (κ × V)} {vs : List D}, RepL K G (kvs.map (·.2)) vs →
    match lookD (kvs.map fun q => f q.1) vs (f k) with
    | some d => ∃ v, valV kvs k = some v ∧ Rep K G v d
    | none => valV kvs k = none
  | [], vs, h => by
    cases h
    exact rfl
  | p :: kvs, vs, h => by
    rw [List.map_cons] at h
    cases h with
    | cons a b =>
      rename_i d ds
      have ih := look_rep hf k b
      rw [List.map_cons]
      by_cases hk : p.1 = k
      · rw [lookD_pos (by rw [hf]; exact decide_eq_true hk)]
        exact ⟨p.2, valV_pos hk, a⟩
      · rw [lookD_neg (by rw [hf]; exact decide_eq_false hk), valV_neg hk]
        exact ih
theorem look_some {κ : Type} [DecidableEq κ] {f : κ → D} (hf : ∀ a b, (f a).eqv (f b) = decide (a = b)) {k : κ} {kvs : List (κ × V)} {vs : List D} {d : D} (h : RepL K G (kvs.map (·.2)) vs) (e : lookD (kvs.map fun q => f q.1) vs (f k) = some d) :
    ∃ v, valV kvs k = some v ∧ Rep K G v d := by
  have q := look_rep hf k h
  rw [e] at q
  exact q
theorem look_is {κ : Type} [DecidableEq κ] {f : κ → D} (hf : ∀ a b, (f a).eqv (f b) = decide (a = b)) {k : κ} {kvs : List (κ × V)} {vs : List D} (h : RepL K G (kvs.map (·.2)) vs) :
    (valV kvs k).isSome = (lookD (kvs.map fun q => f q.1) vs (f k)).isSome := by
  have q := look_rep hf k h
  cases e : lookD (kvs.map fun q => f q.1) vs (f k) with
  | none => rw [e] at q; rw [q]; rfl
  | some d => rw [e] at q; obtain ⟨v, q, _⟩ := q; rw [q]; rfl
theorem any_key {κ : Type} [DecidableEq κ] {f : κ → D} (hf : ∀ a b, (f a).eqv (f b) = decide (a = b)) (k : κ) (kvs : List (κ × V)) : ((kvs.map fun q => f q.1).any fun z => z.eqv (f k)) = kvs.any fun kv => decide (kv.1 = k) := by
  rw [List.any_map]
  congr 1
  funext p
  exact hf p.1 k
theorem put_keys {κ : Type} [DecidableEq κ] {f : κ → D} (hf : ∀ a b, (f a).eqv (f b) = decide (a = b)) (k : κ) (v : V) (kvs : List (κ × V)) : putKs (kvs.map fun q => f q.1) (f k) = (putK kvs k v).map fun q => f q.1 := by
  unfold putKs putK
  rw [any_key hf]
  by_cases h : (kvs.any fun kv => decide (kv.1 = k)) = true
  · rw [if_pos h, if_pos h, List.map_map]
    refine List.map_congr_left fun p _ => ?_
    show f p.1 = f (if p.1 = k then (p.1, v) else p).1
    split <;> rfl
  · rw [if_neg h, if_neg h, List.map_append]
    rfl
theorem put_rep {κ : Type} [DecidableEq κ] {f : κ → D} (hf : ∀ a b, (f a).eqv (f b) = decide (a = b)) (k : κ) {v : V} {d : D} (rv : Rep K G v d) {kvs : List (κ × V)} {vs : List D} (h : RepL K G (kvs.map (·.2)) vs) :
    RepL K G ((putK kvs k v).map (·.2)) (putVs (kvs.map fun q => f q.1) vs (f k) d) := by
  unfold putVs putK
  rw [any_key hf]
  by_cases hc : (kvs.any fun kv => decide (kv.1 = k)) = true
  · rw [if_pos hc, if_pos hc]
    clear hc
    induction kvs generalizing vs with
    | nil => cases h; exact .nil
    | cons p kvs ih =>
      rw [List.map_cons] at h
      cases h with
      | cons a b =>
        rename_i d0 ds
        rw [List.map_cons, List.map_cons, List.map_cons, List.zip_cons_cons, List.map_cons]
        refine .cons ?_ (ih b)
        show Rep K G (if p.1 = k then (p.1, v) else p).2 (if (f p.1).eqv (f k) = true then d else d0)
        rw [hf]
        by_cases hk : p.1 = k
        · rw [if_pos hk, if_pos (decide_eq_true hk)]
          exact rv
        · rw [if_neg hk, if_neg (by rw [decide_eq_false hk]; simp)]
          exact a
  · rw [if_neg hc, if_neg hc, List.map_append]
    exact h.append (.cons rv .nil)
theorem keyK_rep {y : V} {kd : D} (h : keyK kd = true) (r : Rep K G y kd) : ∃ k : Key, kd = keyD k ∧ y = kV k := by
  cases r with
  | int i => exact ⟨.inl i, rfl, rfl⟩
  | str s => exact ⟨.inr ⟨s.toArray⟩, by show D.str s = D.str _; simp, rfl⟩
  | non => cases h
  | bl b => cases h
  | tup _ _ => cases h
  | lst _ _ => cases h
  | scr _ => cases h
  | fn _ => cases h
  | ptp _ _ _ => cases h
  | dK _ _ _ => cases h
  | dT _ _ _ => cases h
  | ndc _ _ _ _ _ _ => cases h
theorem keyL_rep : ∀ {xs : List V} {ds : List D}, ds.all keyK = true → RepL K G xs ds → ∃ ks : List Key, ds = ks.map keyD ∧ xs = ks.map kV
  | _, _, _, .nil => ⟨[], rfl, rfl⟩
  | _, _, h, .cons a b => by
    rw [List.all_cons, Bool.and_eq_true] at h
    obtain ⟨k, rfl, rfl⟩ := keyK_rep h.1 a
    obtain ⟨ks, rfl, rfl⟩ := keyL_rep h.2 b
    exact ⟨k :: ks, rfl, rfl⟩
theorem keyT_rep {y : V} {kd : D} (h : keyT kd = true) (r : Rep K G y kd) : ∃ (ks : List Key) (b : Addr), kd = keyTD ks ∧ y = .ref b ∧ G b = some (.tup (ks.map kV)) := by
  cases r with
  | tup q rr =>
    obtain ⟨ks, rfl, rfl⟩ := keyL_rep h rr
    exact ⟨ks, _, rfl, rfl, q⟩
  | int i => cases h
  | str s => cases h
  | non => cases h
  | bl b => cases h
  | lst _ _ => cases h
  | scr _ => cases h
  | fn _ => cases h
  | ptp _ _ _ => cases h
  | dK _ _ _ => cases h
  | dT _ _ _ => cases h
  | ndc _ _ _ _ _ _ => cases h
theorem dget_of {x y : V} {ks vs : List D} {kd : D} (s : Same G H) (r1 : RepT K G H x (.dic ks vs)) (r2 : Rep K G y kd) (hk : keyB ks kd = true) :
    ∃ (a : Addr) (o : Option V), x = .ref a ∧ DGet H a y o ∧ o.isSome = (lookD (keysD ks) vs kd).isSome ∧ ∀ d, lookD (keysD ks) vs kd = some d → ∃ v, o = some v ∧ Rep K G v d := by
  unfold keyB at hk
  cases r1 with
  | dK q e rr =>
    rename_i a kvs
    subst e
    rw [isTK_K.1] at hk
    rw [isTK_K.2]
    obtain ⟨k, rfl, rfl⟩ := keyK_rep hk r2
    exact ⟨a, _, rfl, .inl ⟨kvs, k, q, rfl, rfl⟩, look_is eqv_keyD rr, fun d hd => look_some eqv_keyD rr hd⟩
  | dT q e rr =>
    rename_i a kvs
    subst e
    obtain ⟨k, b, rfl, rfl, hb⟩ := keyT_rep hk r2
    exact ⟨a, _, rfl, .inr ⟨kvs, k, b, q, rfl, s _ _ hb, rfl⟩, look_is eqv_keyTD rr, fun d hd => look_some eqv_keyTD rr hd⟩
end
section
variable {X : Cx} {C : Cfg} {F G0 G H : Hp} {pn : Pn} {σ : St} {e e' : Env'} {a b c o ex1 ex2 : Expr} {x y z : Ex} {pos apos cpos : Pos} {st : Stmt}
def dgetF : List D → Option D
  | [.dic ks vs, k] => if keyB ks k then lookD (keysD ks) vs k else none
  | _ => none
theorem keyB_flat {G' : Hp} {ks : List D} {k : D} {v : V} (h : keyB ks k = true) (s : Same G H) (r : RepT C.K G H v k) : Rep C.K G v k := by
  cases r with
  | non => exact .non
  | bl b => exact .bl b
  | int i => exact .int i
  | str s => exact .str s
  | tup q _ rr => exact .tup q rr
  | lst _ _ => unfold keyB at h; split at h <;> cases h
  | scr _ => unfold keyB at h; split at h <;> cases h
  | fn _ => unfold keyB at h; split at h <;> cases h
  | ptp _ _ _ => unfold keyB at h; split at h <;> cases h
  | dK _ _ _ => unfold keyB at h; split at h <;> cases h
  | dT _ _ _ => unfold keyB at h; split at h <;> cases h
  | ndc _ _ _ _ _ _ => unfold keyB at h; split at h <;> cases h
def rIxDi : R2 := fun x y H Q => ∃ a v, x = .ref a ∧ DGet H a y (some v) ∧ Q v H
theorem ix_dic (hu : X.A.units + 1 < cLine) : IxR X rIxDi := by
  intro value slice pins s σ H x y v u Q I rx ry h hs
  obtain ⟨a, w, rfl, g, q⟩ := h
  obtain rfl : v = Value.ref a := rx
  exact tail_any (dict_typeIs I g) F.slot_dict_getitem.lookup (d_getItem hu I g ry fun w' s' I' rw' => ⟨w, H, I', rw', q⟩) hs
def rIxA (K : Frag) : R2 := fun x y H Q => rIx K x y H Q ∨ rIxDi x y H Q
theorem ix_A (hu : X.A.units + 1 < cLine) : IxR X (rIxA X.K) := ix_seq.or (ix_dic hu)
def ixA : List D → Option D
  | [.dic ks vs, k] => dgetF [.dic ks vs, k]
  | ds => ixF ds
theorem dgetF_inv {ds : List D} {d : D} (h : dgetF ds = some d) : ∃ ks vs k, ds = [.dic ks vs, k] ∧ keyB ks k = true ∧ lookD (keysD ks) vs k = some d := by
  unfold dgetF at h
  split at h
  · rename_i ks vs k
    split at h
    · rename_i hk
      exact ⟨ks, vs, k, rfl, hk, h⟩
    · cases h
  · cases h
theorem ixA_two : Two ixA := fun ds d h => by
  unfold ixA at h
  split at h
  · rfl
  · exact ixF_two _ _ h
theorem ixA_ok (hK : C.K.f = X.K) : Ok2 C (rIxA X.K) ixA := fun x y a b d G H Q s t r1 r2 e k => by
  unfold ixA at e
  split at e
  · rename_i ks vs k0 hq
    cases hq
    obtain ⟨ks', vs', k', z, hk, hl⟩ := dgetF_inv e
    cases z
    obtain ⟨p, o, rfl, g, _, h2⟩ := dget_of s r1 (keyB_flat (G' := G) hk s r2) hk
    obtain ⟨v, rfl, rv⟩ := h2 d hl
    exact .inr ⟨p, v, rfl, g, res_flat s t k rv⟩
  · exact .inl (ixF_ok hK x y a b d G H Q s t r1 r2 e k)
theorem hu1 {k : Nat} {A : Around} (hr : Room k A) : A.units + 1 < cLine := by have := hr.un; omega
def rInDi (neg : Bool) : R2 := fun x y H Q => ∃ a o, y = .ref a ∧ DGet H a x o ∧ Q (.bl (neg != o.isSome)) H
def rMemA (K : Frag) (neg : Bool) : R2 := fun x y H Q => rMem K neg x y H Q ∨ rInDi neg x y H Q
theorem op_inB (hu : X.A.units + 65 < cLine) : OpR X (compareOp .In) (rMemA X.K false) := (op_inA hu).or (fun pins s σ H x y v u Q I rx ry h => by
  obtain ⟨a, o, rfl, g, q⟩ := h
  obtain rfl : u = Value.ref a := ry
  exact d_in (by omega) I g rx fun s' I' => ⟨.bl o.isSome, H, I', rfl, by simpa using q⟩)
def memA (neg : Bool) : List D → Option D
  | [k, .dic ks vs] => if keyB ks k then some (.bl (neg != (lookD (keysD ks) vs k).isSome)) else none
  | ds => memF neg ds
theorem memA_two {n : Bool} : Two (memA n) := fun ds d h => by
  unfold memA at h
  split at h
  · rfl
  · exact memF_two _ _ h
theorem memA_boo {n : Bool} : Boo (memA n) := fun ds d h => by
  unfold memA at h
  split at h
  · split at h
    · cases h; exact ⟨_, rfl⟩
    · cases h
  · exact memF_boo _ _ h
theorem memA_ok {n : Bool} (hK : C.K.f = X.K) : Ok2 C (rMemA X.K n) (memA n) := fun x y a b d G H Q s t r1 r2 e k => by
  unfold memA at e
  split at e
  · rename_i k0 ks vs hq
    cases hq
    split at e
    · rename_i hk
      cases e
      obtain ⟨p, o, rfl, g, h1, h2⟩ := dget_of s r2 (keyB_flat (G' := G) hk s r1) hk
      refine .inr ⟨p, o, rfl, g, ?_⟩
      rw [h1]
      exact res_flat s t k (.bl _)
    · cases e
  · exact .inl (memF_ok hK x y a b d G H Q s t r1 r2 e k)
def rSetDi : V → V → V → Hp → (Hp → Prop) → Prop := fun o i v H Q => ∃ a H', o = .ref a ∧ DPut H a i v H' ∧ Q H'
theorem set_dic (hu : X.A.units + 1 < cLine) : PSet X rSetDi := fun pins s σ H o i v ov iv u Q I ro ri rv h => by
  obtain ⟨a, H', rfl, g, q⟩ := h
  obtain rfl : ov = Value.ref a := ro
  exact d_setItem hu I g ri rv fun s' I' => ⟨H', I', q⟩
def rSetA : V → V → V → Hp → (Hp → Prop) → Prop := fun o i v H Q => rSetL o i v H Q ∨ rSetDi o i v H Q
theorem set_A (hu : X.A.units + 1 < cLine) : PSet X rSetA := fun pins s σ H o i v ov iv u Q I ro ri rv h => h.elim (set_list pins s σ H o i v ov iv u Q I ro ri rv) (set_dic hu pins s σ H o i v ov iv u Q I ro ri rv)
def setA : D → D → D → Option D := fun o k d => match o with
  | .dic ks vs => if keyB ks k = true ∧ ks.length < 1000000 then some (.dic (rowK (isTK ks) (putKs (keysD ks) k)) (putVs (keysD ks) vs k d)) else none
  | o => setL o k d
theorem setA_ok : OkS C rSetA setA := fun p y v o d0 kd d d1 G H Q s h r0 rk rd hf hQ => by
  unfold setA at hf
  split at hf
  · rename_i ks vs
    split at hf
    · rename_i hk
      cases hf
      unfold keyB at hk
      cases r0 with
      | dK e rr =>
        rename_i kvs
        subst e
        rw [isTK_K.1] at hk hQ
        rw [isTK_K.2] at hQ
        obtain ⟨k, rfl, rfl⟩ := keyK_rep hk.1 rk
        refine .inr ⟨p, _, rfl, .inl ⟨kvs, k, h, rfl, ?_, rfl⟩, hQ _ (.dK (put_keys eqv_keyD k v kvs) (put_rep eqv_keyD k rd rr))⟩
        have := hk.2
        rw [List.length_map] at this
        rw [sizeLine_eq]
        omega
      | dT e rr =>
        rename_i kvs
        subst e
        obtain ⟨k, b, rfl, rfl, hb⟩ := keyT_rep hk.1 rk
        refine .inr ⟨p, _, rfl, .inr ⟨kvs, k, b, h, rfl, s _ _ hb, ?_, rfl⟩, hQ _ (.dT ?_ (put_rep eqv_keyTD k rd rr))⟩
        · have := hk.2
          rw [List.length_cons, List.length_map] at this
          rw [sizeLine_eq]
          omega
        · exact congrArg (List.cons D.non) (put_keys eqv_keyTD k v kvs)
    · cases hf
  · exact .inl (setL_ok p y v o d0 kd d d1 G H Q s h r0 rk rd hf hQ)
theorem cs_subA {i : Nat} (h : ∀ {te ti : TE}, PE X a te → PE X b ti → PS X st (tAsg te (gSub (tVar i) ti rSetA))) (ha : PE X a (tE C x)) (hb : PE X b (tE C y)) : PS X st (tS C (.sub setA i y x)) :=
  (h ha hb).imp fun D σ H q => sub_of setA_ok q
def lenA : List D → Option D
  | [.dic ks vs] => some (.int vs.length)
  | ds => lenF ds
def rLenD : List V → Hp → VK → Prop := fun xs H Q => ∃ a n, xs = [V.ref a] ∧ ((∃ kvs, Rd H a (.dK kvs) ∧ n = kvs.length) ∨ ∃ kvs, Rd H a (.dT kvs) ∧ n = kvs.length) ∧ Q (.int (n : Nat)) H
theorem call_lenDi : CallR X (.builtin "len") rLenD := by
  intro pins s σ H xs us Q I r h
  obtain ⟨a, n, rfl, hd, q⟩ := h
  obtain ⟨u, rfl, ru⟩ := vals1 r
  obtain rfl : u = .ref a := ru
  rcases hd with ⟨kvs, hd, rfl⟩ | ⟨kvs, hd, rfl⟩
  · exact d_len I hd fun t s' I' => ⟨.int kvs.length, H, I', ⟨t, rfl⟩, q⟩
  · obtain ⟨z, hs, ys, rel, dd⟩ := dt_rd I.hok hd
    have hl : kvs.length = ys.length := Paired.length rel
    refine call_len_dictH hs dd (by rw [← hl]; rw [sizeLine_eq] at z; omega) ?_
    rw [← hl]
    exact ⟨.int ((kvs.length : Nat) : Int), H, I.tok _, ⟨_, rfl⟩, q⟩
theorem call_lenA : CallR X (.builtin "len") (fun xs H Q => (∃ x n, xs = [x] ∧ LenV X.K x H n ∧ Q (.int n) H) ∨ rLenD xs H Q) := call_len.or call_lenDi
theorem lenA_ok (hK : C.K.f = X.K) : OkN C (fun xs H Q => (∃ x n, xs = [x] ∧ LenV X.K x H n ∧ Q (.int n) H) ∨ rLenD xs H Q) lenA := fun vs ds d G H Q s t r e k => by
  unfold lenA at e
  split at e
  · rename_i ks vs0
    cases e
    obtain ⟨v, rfl, rv⟩ := repTs_one r
    cases rv with
    | dK q e rr =>
      rename_i a kvs
      have hl := rr.length
      rw [List.length_map] at hl
      exact .inr ⟨a, _, rfl, .inl ⟨kvs, q, hl.symm⟩, res_flat s t k (.int _)⟩
    | dT q e rr =>
      rename_i a kvs
      have hl := rr.length
      rw [List.length_map] at hl
      exact .inr ⟨a, _, rfl, .inr ⟨kvs, q, hl.symm⟩, res_flat s t k (.int _)⟩
  · exact .inl (lenF_ok hK vs ds d G H Q s t r e k)
def SameD (e e' : Env') : Prop := ∀ (i : Nat) (b : B) (d : D), e[i]? = some b → b.data = some d → ∃ b' : B, e'[i]? = some b' ∧ b'.data = some d
theorem SameD.refl (e : Env') : SameD e e := fun i b d h q => ⟨b, h, q⟩
theorem SameD.trans {e1 e2 e3 : Env'} (h : SameD e1 e2) (g : SameD e2 e3) : SameD e1 e3 := fun i b d h1 h2 => by
  obtain ⟨b', h3, h4⟩ := h i b d h1 h2
  exact g i b' d h3 h4
theorem isD_rep {v : V} {ks vs : List D} (r : RepT C.K G H v (.dic ks vs)) : ∃ a, v = .ref a ∧ IsD H a := by
  cases r with
  | dK q e rr => exact ⟨_, rfl, .inl ⟨_, q⟩⟩
  | dT q e rr => exact ⟨_, rfl, .inr ⟨_, q⟩⟩
variable {ex3 : Expr}
end
end Mi
namespace Mi
open PySem PySem.Spec PyProof.Rows L2 GxR
section
variable {K : FragW} {G H : Hp}
end
section
variable {X : Cx} {C : Cfg} {F G0 G H : Hp} {pn : Pn} {σ : St} {e e' : Env'} {a b c o : Expr} {x y z : Ex} {pos : Pos}
end
end Mi
namespace Mi
open PySem PySem.Spec PyProof.Rows L2 GxR
section
variable {K : FragW} {G G' : Hp}
def IsDk (u : HO) : Prop := (∃ kvs, u = .dK kvs) ∨ ∃ kvs, u = .dT kvs
variable {p : Addr} {od : Obj} {u : HO}
theorem IsDk.nt (h : IsDk u) : NT (some u) := fun xs z => by rcases h with ⟨k, rfl⟩ | ⟨k, rfl⟩ <;> cases z
end
section
variable {C : Cfg} {F G0 G G2 H H2 : Hp} {pn : Pn} {σ σ2 : St} {e e2 : Env'} {p : Addr} {od : Obj} {u : HO}
end
end Mi
namespace Mi
open PySem PySem.Spec PyProof.Rows L2 GxR
section
variable {X : Cx} {C : Cfg} {F G0 G G' H H' : Hp} {pn : Pn} {σ : St} {e e' : Env'} {a tgx elt : Expr} {pos : Pos} {s : S} {tg : Tg}
theorem repL_keys : ∀ k : List Key, RepL C.K G (k.map kV) (k.map keyD)
  | [] => .nil
  | .inl i :: k => .cons (.int i) (repL_keys k)
  | .inr ⟨⟨l⟩⟩ :: k => .cons (.str l) (repL_keys k)
variable {ifs : List Expr} {scope : Scope} {own : List (Str × Nat)} {cs : List Ex} {x : Ex}
end
end Mi
namespace Mi
open PySem PySem.Spec PyProof.Rows L2 GxR
def DKeys (H : Hp) (a : Addr) (ks : List V) : Prop := (∃ kvs : List (Key × V), Rd H a (.dK kvs) ∧ ks = kvs.map fun p => kV p.1) ∨ ∃ (kvs : List (List Key × V)) (bs : List Addr), Rd H a (.dT kvs) ∧ IsKeys H kvs bs ∧ ks = bs.map V.ref
section
variable {X : Cx} {pins : List (Addr × Obj)} {σ : St} {H : Hp} {s : Shared} {a : Addr}
theorem dict_src (I : Inv X pins σ H s) (hd : IsD H a) : ∃ (n : Nat) (P : Nat → Value → Prop) (OK : Heap → Prop), PySem.W.KdlSrc X.prog X.w "dict" a a n P OK ∧ OK s.heap ∧ n ≤ sizeLine ∧ ∀ acc : Array Value, ItemsOf P acc n → ∃ ks, DKeys H a ks ∧ Vals ks acc.toList := by
  rcases hd with ⟨kvs, hd⟩ | ⟨kvs, hd⟩
  · obtain ⟨z, lo, vs, rel, dd⟩ := dk_rd I.hok hd
    obtain ⟨ep, hat⟩ := dd.dictAt
    have hl : kvs.length = vs.length := rel.length
    refine ⟨_, _, _, PySem.W.kdl_dict (knd := mixKind X.prog X.w) (kvs := vs) (ep := ep) lo, hat, by omega, fun acc hacc => ⟨_, .inl ⟨kvs, hd, rfl⟩, ?_⟩⟩
    have e : (kvs.map fun p => kV p.1) = vs.map fun p => kV p.1 := by
      have := congrArg (List.map kV) rel.keys
      rw [List.map_map, List.map_map] at this
      exact this
    rw [e]
    exact keys_at (by rw [Array.length_toList, hacc.1]) fun j v hj => by
      obtain ⟨k, x, e1, e2⟩ := hacc.2 j v (by rw [← Array.getElem?_toList]; exact hj)
      exact ⟨k, x, e1, e2⟩
  · obtain ⟨z, hs, ks, pr, o, es, ep, ho, hx, hdt, he, hn⟩ := (show ObjOk X.prog X.w H s.heap a (.dT kvs) from hd.ok I.hok)
    have l1 : es.size = ks.length := size_of_entries he
    have l2 : kvs.length = ks.length := Paired.length pr
    refine ⟨_, _, _, kdl_raw hs hx hdt, ho, by omega, fun acc' it => ⟨_, .inr ⟨kvs, _, hd, isKeys_of pr, rfl⟩, ?_⟩⟩
    have ea : acc'.toList = ks.map fun x => Value.ref x.2.1 := by
      have hl : acc'.toList.length = ks.length := by rw [Array.length_toList, it.1]; exact l1
      apply List.ext_getElem?
      intro j
      rw [List.getElem?_map]
      cases hj : acc'.toList[j]? with
      | none =>
        have h1 := List.getElem?_eq_none_iff.mp hj
        rw [List.getElem?_eq_none (by omega)]
        all_goals rfl
      | some v =>
        obtain ⟨en, hen, hv⟩ := it.2 j v (by rw [← Array.getElem?_toList]; exact hj)
        have qe := entry_at he j
        rw [hen] at qe
        cases hb : ks[j]? with
        | none =>
          rw [hb] at qe
          exact nomatch (show some en = none from qe)
        | some b =>
          rw [hb] at qe
          have e2 : en = entryOfKey (tupleKind (mixKind X.prog X.w)) b := Option.some.inj qe
          rw [hv, e2]
          all_goals rfl
    have eb : acc'.toList = (ks.map fun x => x.2.1).map Value.ref := by rw [ea, List.map_map]; all_goals rfl
    rw [eb]
    exact vals_refs _
def rListDi : List V → Hp → VK → Prop := fun xs H Q => ∃ a, xs = [V.ref a] ∧ IsD H a ∧ ∀ ks p, DKeys H a ks → H p = none → Q (.ref p) (upd H p (.lst ks))
theorem call_listDi (hc : X.calm = true) : CallR X (.type "list") rListDi := by
  intro pins s σ H xs us Q I r h
  obtain ⟨d, rfl, hd, q⟩ := h
  obtain ⟨u, rfl, rx⟩ := r.one
  cases rx
  obtain ⟨n, P, OK, src, ok, hz, hk⟩ := dict_src I hd
  refine PySem.W.kdl_call src (I.ok.hd hc) ok hz fun h' tk acc' c' kp e it => ?_
  obtain ⟨ks, dk, rv⟩ := hk acc' it
  have hl : ks.length ≤ sizeLine := by rw [rv.length, Array.length_toList, it.1]; exact hz
  refine ⟨.ref s.heap.objs.size, _, I.laid (t' := tk) (o := .lst ks) kp (Nat.le_refl _) ?_, rfl, q _ _ dk (I.hok.fresh (Nat.le_refl _))⟩
  exact ⟨hl, acc'.toList, c', rv, by rw [Array.toArray_toList]; exact e⟩
end
section
variable {X : Cx} {C : Cfg} {F G0 G H : Hp} {pn : Pn} {σ : St} {e e' : Env'} {a : Addr}
def learn (G H : Hp) : Hp := fun b => match H b with
  | some (.tup xs) => some (.tup xs)
  | _ => G b
theorem learn_tup {b : Addr} {xs : List V} (h : H b = some (.tup xs)) : learn G H b = some (.tup xs) := by
  unfold learn
  rw [h]
theorem learn_not {b : Addr} (h : NT (H b)) : learn G H b = G b := by
  unfold learn
  split
  · rename_i xs z
    exact absurd z (h xs)
  · rfl
theorem grow_learn (s : Same G H) (t : ∀ P ∈ C.tt, TabC C H P) : Grow C G H (learn G H) H := by
  refine ⟨fun b u h => ?_, fun b u h => ?_, fun _ _ _ => rfl, fun b _ hn => learn_not hn, t⟩
  · by_cases z : NT (H b)
    · rw [learn_not z]; exact h
    · have h2 := s _ _ h
      unfold NT at z
      have ⟨xs, hx⟩ : ∃ xs, H b = some (.tup xs) := Classical.byContradiction fun w => z fun xs e => w ⟨xs, e⟩
      rw [learn_tup hx, ← hx, h2]
  · by_cases z : NT (H b)
    · rw [learn_not z] at h; exact s _ _ h
    · unfold NT at z
      have ⟨xs, hx⟩ : ∃ xs, H b = some (.tup xs) := Classical.byContradiction fun w => z fun xs e => w ⟨xs, e⟩
      rw [learn_tup hx] at h
      rw [hx]; exact h
theorem rd_inj {u w : HO} (h1 : Rd H a u) (h2 : Rd H a w) (hu : IsDk u) (hw : IsDk w) : u = w := by
  have ne : ∀ {o : Obj} {x y : HO}, IsDk x → x = .frz o y → False := fun {o x y} h z => by
    subst z
    rcases h with ⟨k, h⟩ | ⟨k, h⟩ <;> cases h
  rcases h1 with h1 | ⟨o1, h1⟩ <;> rcases h2 with h2 | ⟨o2, h2⟩ <;> rw [h1] at h2 <;> have h3 := Option.some.inj h2
  · exact h3
  · exact (ne hu h3).elim
  · exact (ne hw h3.symm).elim
  · cases h3
    rfl
theorem dkeys_rep {v : V} {ks vs : List D} {kv : List V} (r : RepT C.K G H v (.dic ks vs)) (hv : v = .ref a) (d : DKeys H a kv) : RepL C.K (learn G H) kv (keysD ks) := by
  subst hv
  cases r with
  | dK q e rr =>
    rename_i kvs
    subst e
    rw [isTK_K.2]
    rcases d with ⟨kvs2, h, rfl⟩ | ⟨kvs2, bs, h, _, rfl⟩
    · cases rd_inj q h (.inl ⟨_, rfl⟩) (.inl ⟨_, rfl⟩)
      have := repL_keys (C := C) (G := learn G H) (kvs.map (·.1))
      rw [List.map_map, List.map_map] at this
      exact this
    · cases rd_inj q h (.inl ⟨_, rfl⟩) (.inr ⟨_, rfl⟩)
  | dT q e rr =>
    rename_i kvs
    subst e
    rcases d with ⟨kvs2, h, rfl⟩ | ⟨kvs2, bs, h, hk, rfl⟩
    · cases rd_inj q h (.inr ⟨_, rfl⟩) (.inl ⟨_, rfl⟩)
    · cases rd_inj q h (.inr ⟨_, rfl⟩) (.inr ⟨_, rfl⟩)
      show RepL C.K (learn G H) (bs.map V.ref) (kvs.map fun q => D.tup (q.1.map keyD))
      clear q h rr
      unfold IsKeys at hk
      induction hk with
      | nil => exact .nil
      | cons h t ih => exact .cons (.tup (learn_tup h) (repL_keys _)) ih
def OkNG (C : Cfg) (r : List V → Hp → VK → Prop) (f : List D → Option D) : Prop := ∀ (vs : List V) (ds : List D) (d : D) (G H : Hp) (Q : VK), Same G H → (∀ P ∈ C.tt, TabC C H P) → RepTs C.K G H vs ds → f ds = some d →
  (∀ p o G1, Grow C G H G1 H → H p = none → RepO C.K G1 o d → Q (.ref p) (upd H p o)) → r vs H Q
theorem OkNF.g {r : List V → Hp → VK → Prop} {f : List D → Option D} (h : OkNF C r f) : OkNG C r f := fun vs ds d G H Q s t rr e k => h vs ds d G H Q s t rr e fun p o hp r => k p o G (Grow.refl s t) hp r
theorem tF_opG {r : List V → Hp → VK → Prop} {f : List D → Option D} (ok : OkNG C r f) {xs : List Ex} {σ : St} {H : Hp} {Q : VK} (q : tF C (.op f xs) σ H Q) : tA C xs σ H fun vs H1 => r vs H1 Q := by
  obtain ⟨F, G0, G, pn, e, d0, e', R, he, k⟩ := q
  obtain ⟨rs, ds, d, q1, q2, q3, q4⟩ := ev_op he
  cases q4
  exact ⟨F, G0, G, pn, e, rs, e', R, q1, fun vs G1 H1 R1 s1 r1 => ok vs ds _ G1 H1 Q R1.gh R1.tabs (R1.gets r1 q2) q3 fun p o G2 g hp ro => own_of_new (R1.grow g) (s1.trans g.gg) k p o hp ro⟩
variable {nm : Str} {p : Pos} {es : List Expr} {xs : List Ex} {pos : Pos}
def listA : List D → Option D
  | [.dic ks _] => some (.lst (keysD ks))
  | ds => listF1 ds
variable {ea : Expr}
theorem cf_callTyG {T : String} {r : List V → Hp → VK → Prop} {f : List D → Option D} {nm : Str} {p : Pos} {es : List Expr} {xs : List Ex} (hc : CallR X (.type T) r) (ok : OkNG C r f) (hg : Gl X nm) (hm : X.mg nm = none) (hv : bootBuiltins nm = some (.type T)) (ha : PA X (ea :: es) (tA C xs))
    (hn : nm ≠ "__name__" := by decide) (hdb : (nm == ("__debug__" : Str)) = false := by decide)
    (he : starEach (ea :: es) X.env = (false, eval ea X.env) :: starEach es X.env := by rfl) (hpl : (backTo pos (starEach es X.env)).any (·.1) = false := by rfl) : PE X (.Call (.Name nm p) (ea :: es) [] pos) (tF C (.op f xs)) :=
  (pe_callTy hc hg hm hv ha hn hdb he hpl).imp fun σ H Q q => tF_opG ok q
def rListA (K : Frag) : List V → Hp → VK → Prop := fun xs H Q => (∃ p ys, xs = [.ref p] ∧ (SqL K H p ys ∨ SqT K H p ys) ∧ ∀ l, H l = none → Q (.ref l) (upd H l (.lst ys))) ∨ rListDi xs H Q
theorem call_listA (hc : X.calm = true) : CallR X (.type "list") (rListA X.K) := call_list_of.or (call_listDi hc)
theorem listA_ok : OkNG C (rListA X.K) listA := fun vs ds d G H Q s t r e k => by
  unfold listA at e
  split at e
  · rename_i ks vs0
    cases e
    obtain ⟨v, rfl, rv⟩ := repTs_one r
    obtain ⟨a, rfl, hd⟩ := isD_rep rv
    exact .inr ⟨a, rfl, hd, fun kv p dk hp => k p _ _ (grow_learn s t) hp (.lst (dkeys_rep rv rfl dk))⟩
  · exact .inl (listF1_ok.g vs ds d G H Q s t r e k)
end
end Mi
namespace Mi
open PySem PySem.Spec PyProof.Rows L2 GxR
section
variable {X : Cx} {C : Cfg} {F G0 G G' H H' : Hp} {pn : Pn} {σ : St} {e e' : Env'} {a b c d tk tl : Expr} {x y z : Ex} {pos pos' : Pos} {st : Stmt}
def revLF : List D → Option D
  | [.lst l] => some (.lst l.reverse)
  | _ => none
theorem cf_revL {k : Nat} {p1 p2 p3 : Pos} (he : PE X a (tE C x)) (hK : C.K.f = X.K) : PE X (.Subscript a (.Slice none none (some (.UnaryOp .USub (.Constant (.int 1) k p1) p2)) p3) pos) (tF C (.op revLF [x])) := (pe_revL he).imp fun σ H Q q => by
  obtain ⟨F, G0, G, pn, e, d0, e', R, he, k⟩ := q
  obtain ⟨rs, ds, d, q1, q2, q3, q4⟩ := ev_op he
  cases q4
  obtain ⟨r1, e1, rs2, h1, h2, rfl⟩ := evs_cons q1
  obtain ⟨rfl, rfl⟩ := evs_nil h2
  obtain ⟨d1, ds1, g1, g2, rfl⟩ := gets_cons q2
  cases gets_nil g2
  unfold revLF at q3
  split at q3
  · rename_i l hz
    cases hz
    cases q3
    refine ⟨F, G0, G, pn, e, r1, _, R, h1, fun v G1 H1 R1 s1 rv => ?_⟩
    have r2 := R1.get rv g1
    cases r2 with
    | lst q rr => exact ⟨_, _, rfl, SqL.of q, fun p hp => own_of_new R1 s1 k p _ hp (.lst rr.reverse)⟩
  · cases q3
end
end Mi
namespace Mi
open PySem PySem.Spec PyProof.Rows L2 GxR
section
variable {X : Cx} {C : Cfg} {F G0 G H : Hp} {pn : Pn} {σ : St} {e e' : Env'} {a b : Expr} {x y z : Ex} {pos : Pos}
end
end Mi
namespace Mi
open PySem PySem.Spec PyProof.Rows L2 GxR
def kp (p : Int × Int) : Int := p.1 * 64 + p.2
section
variable {X : Cx} {C : Cfg}
end
end Mi
namespace Mi
open PySem PySem.Spec PyProof.Rows L2 GxR
section
variable {X : Cx} {C : Cfg}
def rInDT (K : Frag) (neg : Bool) : R2 := fun x y H Q => ∃ d ds, Dp K H x d ∧ Dp K H y (.tuple ds) ∧ SeqAt.shaped d = true ∧ SeqAt.shaped (.tuple ds) = true ∧ Q (.bl (neg != ds.any fun z => PyData.eqv z d)) H
theorem op_inDT (hu : X.A.units + 65 < cLine) : OpR X (compareOp .In) (rInDT X.K false) := by
  intro pins s σ H x y v u Q I rx ry h
  obtain ⟨d, ds, hd, he, sd, se, q⟩ := h
  obtain ⟨as, r1⟩ := Dp.reads I d x v hd rx
  obtain ⟨bs, r2⟩ := Dp.reads I (.tuple ds) y u he ry
  exact SeqAt.in_tuple_reads r2 r1 (SeqAt.canLay_of_shaped se) (SeqAt.canLay_of_shaped sd) (room_in_shaped sd hu) ⟨.bl _, H, I, rfl, by simpa using q⟩
def rMemB (K : Frag) (neg : Bool) : R2 := fun x y H Q => rMemA K neg x y H Q ∨ rInDT K neg x y H Q
theorem op_inE (hu : X.A.units + 65 < cLine) : OpR X (compareOp .In) (rMemB X.K false) := (op_inB hu).or (op_inDT hu)
def memB (neg : Bool) : List D → Option D
  | [x, .tup l] => if x.shp 16 = true ∧ (D.tup l).shp 16 = true then some (.bl (neg != l.any fun y => y.eqv x)) else memF neg [x, .tup l]
  | ds => memA neg ds
theorem memB_two {n : Bool} : Two (memB n) := fun ds d h => by
  unfold memB at h
  split at h
  · rfl
  · exact memA_two _ _ h
theorem memB_boo {n : Bool} : Boo (memB n) := fun ds d h => by
  unfold memB at h
  split at h
  · split at h
    · cases h; exact ⟨_, rfl⟩
    · exact memF_boo _ _ h
  · exact memA_boo _ _ h
theorem memB_ok {n : Bool} (hK : C.K.f = X.K) : Ok2 C (rMemB X.K n) (memB n) := fun x y a b d G H Q s t r1 r2 e k => by
  unfold memB at e
  split at e
  · rename_i x' l hq
    cases hq
    split at e
    · rename_i hz
      cases e
      refine .inr ⟨a.py, D.pyL l, ?_, ?_, shp_shaped (by decide) hz.1, shp_shaped (by decide) hz.2, ?_⟩
      · rw [← hK]; exact rep_dp 16 a x hz.1 (r1.all s)
      · rw [← hK]
        have := rep_dp 16 (.tup l) y hz.2 (r2.all s)
        simpa only [D.py] using this
      · rw [any_py]; exact res_flat s t k (.bl _)
    · exact .inl (.inl (memF_ok hK x y a _ d G H Q s t r1 r2 e k))
  · exact .inl (memA_ok hK x y a b d G H Q s t r1 r2 e k)
end
end Mi
namespace Mi
open PySem PySem.Spec PyProof.Rows L2 GxR
section
variable {X : Cx} {pins : List (Addr × Obj)} {σ : St} {H : Hp} {s : Shared}
end
section
variable {X : Cx} {C : Cfg} {F G0 G H : Hp} {pn : Pn} {σ : St} {e e' : Env'}
structure DKind (C : Cfg) where
  κ : Type
  dec : DecidableEq κ
  f : κ → D
  ob : List (κ × V) → HO
  good : D → Bool
  hf : ∀ a b, (f a).eqv (f b) = decide (a = b)
  nt : ∀ kvs, NT (some (ob kvs))
  nx : ∀ kvs c q, ob kvs ≠ LamX.CodeO c q
  put : ∀ {G H : Hp} {y z : V} {kd : D} {kvs : List (κ × V)} {T : Addr}, good kd = true → Rep C.K G y kd → Same G H → H T = some (ob kvs) → kvs.length < sizeLine → ∃ key, kd = f key ∧ DPut H T y z (upd H T (ob (putK kvs key z)))
instance instDK {C : Cfg} (Y : DKind C) : DecidableEq Y.κ := Y.dec
variable {kxx vxx tgx iter : Expr} {ifs : List Expr} {scope : Scope} {own : List (Str × Nat)} {pos : Pos} {g : List D → Option (List D)} {xs : List Ex} {tg : Tg} {cs : List Ex} {kx vx : Ex}
end
end Mi
namespace Mi
open PySem PySem.Spec PyProof.Rows L2 GxR
def PrT (K : Frag) (H : Hp) (p : Addr) (kv : List Key × V) : Prop := ∃ b, SqT K H p [.ref b, kv.2] ∧ H b = some (.tup (kv.1.map kV))
section
variable {X : Cx} {pins : List (Addr × Obj)} {σ : St} {H : Hp} {s : Shared}
end
section
variable {K : FragW} {G H : Hp}
theorem PrT.mono {as : List Addr} {kvs : List (List Key × V)} (s : Same G H) (h : Paired (PrT K G) as kvs) : Paired (PrT K H) as kvs := h.mono fun _ _ ⟨b, q1, q2⟩ => ⟨b, s.seqT q1, s _ _ q2⟩
end
section
variable {X : Cx} {C : Cfg} {F G0 G H : Hp} {pn : Pn} {σ : St} {e e' : Env'}
end
end Mi
namespace Mi
open PySem PySem.Spec PyProof.Rows L2 GxR
def keyAt (e : Int × Value) : Key := match e.2 with
  | .int i _ => .inl i
  | .str x _ => .inr x
  | _ => .inl 0
def SetM (P : Program) (w : World) (h : Heap) (a : Addr) (l : List Key) : Prop :=
  ∃ o es ep t, h.get? a = some o ∧ o.ExactSet ∧ o.data = .set es ep t ∧ ElemsOf (mixKind P w) es.toList ∧ (es.toList.map keyAt).Perm l ∧ l.Nodup ∧
    es.size < scanBound ∧ t.fits es.size = true ∧ Ris t.place.toList ∧ (w.params.followText "set-order" = true ∨ t.led = true)
section
variable {P : Program} {w : World} {A : Around} {E : Value → Shared → Prop} {s : Shared} {a : Addr} {l : List Key}
theorem SetM.keep {h h' : Heap} (R : SetM P w h a l) (k : ∀ o, h.get? a = some o → h'.get? a = some o) : SetM P w h' a l := by
  obtain ⟨o, es, ep, t, ho, r⟩ := R
  exact ⟨o, es, ep, t, k o ho, r⟩
theorem SetM.size {h : Heap} (R : SetM P w h a l) : ∃ o es ep t, h.get? a = some o ∧ o.data = .set es ep t ∧ es.size = l.length := by
  obtain ⟨o, es, ep, t, ho, _, hd, _, pm, _⟩ := R
  exact ⟨o, es, ep, t, ho, hd, by rw [← pm.length_eq, List.length_map, Array.length_toList]⟩
end
end Mi
namespace Mi
open PySem PySem.Spec PyProof.Rows L2 GxR HT
section
variable {prog : Program} {w : World} {A : Around} {E : Value → Shared → Prop} {s : Shared}
end
section
variable {X : Cx} {C : Cfg} {e st : Expr} {te ts : TE} {lo : Option Expr} {tl : TO} {x : Ex} {p3 pos : Pos} {lv : Option Int} {k : Int}
end
end Mi
namespace Mi
open PySem PySem.Spec PyProof.Rows L2 GxR
section
variable {X : Cx} {C : Cfg} {F G0 G H : Hp} {pn : Pn} {σ : St} {e : Env'} {y : Ex}
end
end Mi
namespace Mi
open PySem PySem.Spec PyProof.Rows L2 GxR
section
variable {X : Cx} {C : Cfg}
def CDivZ (_ j : Int) : Prop := j ≠ 0 ∧ j.natAbs.log2 < 9000
theorem op_fdivZ : OpR X (binaryOp .FloorDiv) (rI CDivZ fun i j => .int (i.fdiv j)) := opI fun i j _ _ _ _ _ hc q => floordiv_int hc.1 q (.inl (PyProof.noPylong_of_log2 hc.2))
def fdivZF : List D → Option D
  | [.int a, .int b] => if b ≠ 0 ∧ b.natAbs < 2 ^ 2000 then some (.int (a.fdiv b)) else none
  | _ => none
theorem fdivZF_two : Two fdivZF := fun ds d h => by
  unfold fdivZF at h
  split at h <;> first | rfl | cases h
theorem fdivZF_ok : Ok2 C (rI CDivZ fun i j => .int (i.fdiv j)) fdivZF := fun x y a b d G H Q s t r1 r2 e k => by
  unfold fdivZF at e
  split at e
  · rename_i i j hq
    cases hq
    split at e
    · rename_i hz
      cases e
      cases r1
      cases r2
      exact ⟨i, j, rfl, rfl, ⟨hz.1, Nat.lt_of_lt_of_le (PySem.Flt.log2_lt_of (by decide) hz.2) (by decide)⟩, res_flat s t k (.int _)⟩
    · cases e
  · cases e
end
end Mi
namespace Mi
open PySem PySem.Spec PyProof.Rows L2 GxR
theorem Grow.trans {C : Cfg} {G H G1 H1 G2 H2 : Hp} (a : Grow C G H G1 H1) (b : Grow C G1 H1 G2 H2) : Grow C G H G2 H2 :=
  ⟨a.gg.trans b.gg, b.gh, fun p h n => by
    have e := a.hh p h n
    rw [b.hh p (by rw [e]; exact h) n, e],
   fun p h n => by
    by_cases hp : p ∈ C.tt
    · have t0 := a.tb p hp
      have e1 := a.go p h n
      rw [b.go p (tabG_some t0) (tabG_nt t0), e1]
    · have e := a.hh p h hp
      rw [b.go p (by rw [e]; exact h) (by rw [e]; exact n), a.go p h n], b.tb⟩
section
variable {X : Cx} {pins : List (Addr × Obj)} {σ : St} {H : Hp} {s : Shared}
end
section
variable {X : Cx} {C : Cfg}
end
section
variable {X : Cx} {C : Cfg}
end
section
variable {X : Cx} {C : Cfg}
end
end Mi
namespace Mi
open PySem PySem.Spec PyProof.Rows L2 GxR
section
variable {P : Program} {w : World} {K : Frag} {mg : Str → Option Value} {base : Heap} {C : Cfg}
end
section
variable {X : Cx} {C : Cfg}
end
end Mi
namespace Mi
open PySem PySem.Spec PyProof.Rows L2 GxR
theorem gt_nil {K : FragW} {tt : List Addr} {P : Addr} (h : P ∈ tt) : (⟨K, tt, []⟩ : Cfg).gt P := ⟨h, fun q z => nomatch z⟩
end Mi
namespace Mi
open PySem PySem.Spec PyProof.Rows L2 GxR PpSet
section
variable {P : Program} {w : World} {A : Around} {E : Value → Shared → Prop} {s : Shared} {a : Addr}
end
section
variable {X : Cx} {C : Cfg} {F G0 G H : Hp} {pn : Pn} {σ : St} {e e' : Env'}
end
end Mi
namespace Mi
open PySem PySem.Spec PyProof.Rows L2 GxR
structure Xc where
  cls : Nat
  fld : Option D := none
deriving Inhabited
inductive Rx where
  | ok (d : D)
  | ex (x : Xc)
deriving Inhabited
def RepX (K : FragW) (G H : Hp) (cls : Value) (d : Option Addr) (x : Xc) : Prop := cls = .ref (He.ga K (xNm x.cls)) ∧ match x.fld with
  | none => d = none
  | some f => ∃ dd v, d = some dd ∧ H dd = some (.xd [(xFn x.cls, v)]) ∧ Rep K G v f
inductive Kn where
  | exp
  | ret
  | set (tg : Tg)
inductive SX where
  | st (s : S)
  | skip
  | seq (a b : SX)
  | iff (c : Ex) (a b : SX)
  | rai (n : Nat) (as : List Ex)
  | cal (k : Kn) (φ : List D → Option Rx) (as : List Ex)
  | forr (g : List D → Option (List D)) (as : List Ex) (tg : Tg) (b : SX)
  | act (k : Kn)
inductive OutX where
  | o (o : Out)
  | x (x : Xc) (e : Env')
def Kn.out (k : Kn) (d : D) (e : Env') : Option Out := match k with
  | .exp => some (.nx e)
  | .ret => some (.rt d e)
  | .set tg => (match tg.bind d e with
    | some e1 => some (.nx e1)
    | none => none)
def OutOkX (C : Cfg) (F G0 G : Hp) (pn : Pn) (D : Ends) (W : WX) : OutX → Prop
  | .o o => OutOk C F G0 G pn D o
  | .x x e' => ∀ σ' G' H' cls d, Rel C F G0 G' H' pn σ' e' → Same G G' → RepX C.K G' H' cls d x → W cls d σ' H'
section
variable {X : Cx} {C : Cfg} {W : WX} {α : Option Rx} {F G0 G G' H H' : Hp} {pn : Pn} {σ : St} {e e' : Env'} {v : V} {d : D} {st : Stmt} {rest : List Stmt} {a b c : Expr} {x y z : Ex} {s t : SX} {pos : Pos}
theorem OutOkX.mono {D : Ends} {o : OutX} (s : Same G G') (h : OutOkX C F G0 G pn D W o) : OutOkX C F G0 G' pn D W o := by
  cases o with
  | o o => exact OutOk.mono s h
  | x x e' => exact fun σ' G2 H' cls d R q => h σ' G2 H' cls d R (s.trans q)
theorem _root_.L2.PS.nox (h : PS X.nox st t0) : PS X st t0 := ⟨fun pins s σ H D I hw =>
  wpAny_mono (h.run pins s σ H D (I.wish _) hw) (fun _ _ q => q.unwish) fun _ _ z => False.elim z⟩
theorem _root_.L2.PA.nox {es : List Expr} {t : TA} (h : PA X.nox es t) : PA X es t := ⟨fun pos pins s σ H Q I hw =>
  wpAny_mono (h.run pos pins s σ H Q (I.wish _) hw) (fun _ _ ⟨v, H', I', r, q⟩ => ⟨v, H', I'.unwish, r, q⟩) fun _ _ z => False.elim z⟩
end
end Mi
namespace Mi
open PySem PySem.Spec PyProof.Rows L2 GxR
section
variable {X : Cx} {C : Cfg} {W : WX} {α : Option Rx} {F G0 G G' H H' : Hp} {pn : Pn} {σ : St} {e e' : Env'} {v : V} {d : D} {st : Stmt} {rest : List Stmt} {a b c : Expr} {x y z : Ex} {s t : SX} {p pos pos2 : Pos}
theorem _root_.Mi.RepRs.length {K : FragW} {G : Hp} {σ : St} {e : Env'} : ∀ {rs : List Rv} {vs : List V}, RepRs K G σ e rs vs → vs.length = rs.length
  | _, _, .nil => rfl
  | _, _, .cons _ t => congrArg Nat.succ (RepRs.length t)
section
variable {k n : Nat} {f : Addr} {fd : FuncData} {ps : List Str} {nm : Str} {φ : List D → Option Rx} {a0 : Expr} {as : List Expr} {xs : List Ex}
end
end
section
variable {P : Program} {w : World} {K : Frag} {mg : Str → Option Value} {base : Heap} {C : Cfg} {nm qual : Str} {params : Arguments} {body : List Stmt} {scope : Scope} {f : Addr} {fd : FuncData} {N ps : List Str} {k : Nat} {s : SX}
end
end Mi
namespace Mi
open PySem PySem.Spec PyProof.Rows L2 GxR
def Ka (K : FragW) (i : Nat) (a : Addr) (cls : Value) (d : Option Addr) (x : Xc) (F G : Hp) (σ : St) : Prop := σ[i]? = some (some (.ref a)) ∧ cls = .ref (He.ga K (xNm x.cls)) ∧ match x.fld with
  | none => d = none
  | some f => ∃ dd v, d = some dd ∧ F dd = some (.xd [(xFn x.cls, v)]) ∧ Rep K G v f
section
variable {C : Cfg} {i : Nat} {a0 : Addr} {cls : Value} {d0 : Option Addr} {xx : Xc} {F G0 G G' H H' : Hp} {pn : Pn} {σ σ' : St} {e e' : Env'}
theorem Ka.mono (s : Same G G') (h : Ka C.K i a0 cls d0 xx F G σ) : Ka C.K i a0 cls d0 xx F G' σ := by
  obtain ⟨h1, h2, h3⟩ := h
  refine ⟨h1, h2, ?_⟩
  cases hx : xx.fld with
  | none => rw [hx] at h3; exact h3
  | some f =>
    rw [hx] at h3
    obtain ⟨dd, v, e1, e2, e3⟩ := h3
    exact ⟨dd, v, e1, e2, e3.mono s⟩
end
section
variable {X : Cx} {C : Cfg} {κ : Hp → Hp → St → Prop} {F G0 G G' H H' : Hp} {pn : Pn} {σ : St} {e e' : Env'} {a b c : Expr} {as : List Expr} {x y z : Ex} {xs : List Ex} {pos : Pos}
end
def OutOkA (C : Cfg) (F G0 G : Hp) (pn : Pn) (D : Ends) (i : Nat) (a : Addr) : Out → Prop
  | .nx e' => ∀ σ' G' H', Rel C F G0 G' H' pn σ' e' → Same G G' → σ'[i]? = some (some (.ref a)) → D.nx σ' H'
  | o => OutOk C F G0 G pn D o
section
variable {X : Cx} {C : Cfg} {i : Nat} {a0 : Addr} {cls : Value} {d0 : Option Addr} {xx : Xc} {F G0 G G' H H' : Hp} {pn : Pn} {σ : St} {e e' : Env'} {st : Stmt} {rest la lb : List Stmt} {a b c : Expr} {x y z : Ex} {s t : S} {pos pos' : Pos}
theorem OutOkA.mono {D : Ends} {o : Out} (s : Same G G') (h : OutOkA C F G0 G pn D i a0 o) : OutOkA C F G0 G' pn D i a0 o := by
  cases o with
  | nx e' => exact fun σ' G2 H' R q hs => h σ' G2 H' R (s.trans q) hs
  | rt d e' => exact OutOk.mono s (o := .rt d e') h
  | ro d e' => exact OutOk.mono s (o := .ro d e') h
  | bk e' => exact OutOk.mono s (o := .bk e') h
  | ct e' => exact OutOk.mono s (o := .ct e') h
end
end Mi
namespace Mi
open PySem PySem.Spec PyProof.Rows L2 GxR
section
variable {X : Cx} {C : Cfg} {i : Nat} {a0 : Addr} {cls : Value} {d0 : Option Addr} {xx : Xc} {oe : Obj} {pn : List (Addr × Obj)} {F G0 G G' H H' : Hp} {σ : St} {en cn : Str} {p p1 p2 pos : Pos}
end
structure Told where
  ret : Bool
  nt : Nat
  L : List Nat
  h : Xc → S
  rest : S
def rtOf : Option Out → Option D
  | some (.rt d _) => some d
  | _ => none
def endOf : Option Out → Option D
  | some (.rt d _) => some d
  | some (.nx _) => some .non
  | _ => none
def Told.run (t : Told) : Rx → Option D
  | .ok d => if t.ret = true then some d else endOf (ex t.rest (initI t.nt []))
  | .ex x => if t.L.contains x.cls = true then rtOf (ex (t.h x) (initI t.nt [])) else none
end Mi
namespace Mi
open PySem PySem.Spec PyProof.Rows L2 GxR LamX
section
variable {X : Cx} {C : Cfg}
end
end Mi
namespace Mi
open PySem PySem.Spec PyProof.Rows L2 GxR LamX
def encR : Rx → D
  | .ok d => .tup [.int (-1), d]
  | .ex x => .tup [.int (x.cls : Nat), .non]
def Rx.bare : Rx → Prop
  | .ok _ => True
  | .ex x => x.fld = none
end Mi
namespace Mi
open PySem PySem.Spec PyProof.Rows L2 GxR
theorem nkey_tup {l : List D} {x : NestedKey} (h : nkey (.tup l) = some x) : ∃ ks, x = .tup ks ∧ nkeys l = some ks := by
  unfold nkey at h
  split at h
  · rename_i ks hk
    cases h
    exact ⟨ks, rfl, hk⟩
  · cases h
theorem beq_eq_decide (a b : Int) : (a == b) = decide (a = b) := by
  rw [Bool.eq_iff_iff]
  simp
mutual
theorem nkey_eqv : ∀ (a b : D) (x y : NestedKey), nkey a = some x → nkey b = some y → a.eqv b = NestedKey.beq x y
  | .tup l, b, x, y, h1, h2 => by
    obtain ⟨ks, rfl, hk⟩ := nkey_tup h1
    cases b with
    | tup m =>
      obtain ⟨ms, rfl, hm⟩ := nkey_tup h2
      simp only [D.eqv, NestedKey.beq]
      exact nkeys_eqv l m ks ms hk hm
    | non => simp only [nkey, Option.some.injEq] at h2; subst h2; simp [D.eqv, NestedKey.beq]
    | bl c => simp only [nkey, Option.some.injEq] at h2; subst h2; simp [D.eqv, NestedKey.beq]
    | int c => simp only [nkey, Option.some.injEq] at h2; subst h2; simp [D.eqv, NestedKey.beq]
    | str c => simp only [nkey, Option.some.injEq] at h2; subst h2; simp [D.eqv, NestedKey.beq]
    | _ => (simp only [nkey] at h2; cases h2)
  | .non, b, x, y, h1, h2 => by
    simp only [nkey, Option.some.injEq] at h1
    subst h1
    cases b with
    | tup m => obtain ⟨ms, rfl, hm⟩ := nkey_tup h2; simp [D.eqv, NestedKey.beq]
    | non => simp only [nkey, Option.some.injEq] at h2; subst h2; simp [D.eqv, NestedKey.beq]
    | bl c => simp only [nkey, Option.some.injEq] at h2; subst h2; simp [D.eqv, NestedKey.beq]
    | int c => simp only [nkey, Option.some.injEq] at h2; subst h2; simp [D.eqv, NestedKey.beq]
    | str c => simp only [nkey, Option.some.injEq] at h2; subst h2; simp [D.eqv, NestedKey.beq]
    | _ => (simp only [nkey] at h2; cases h2)
  | .bl p, b, x, y, h1, h2 => by
    simp only [nkey, Option.some.injEq] at h1
    subst h1
    cases b with
    | tup m => obtain ⟨ms, rfl, hm⟩ := nkey_tup h2; simp [D.eqv, NestedKey.beq]
    | non => simp only [nkey, Option.some.injEq] at h2; subst h2; simp [D.eqv, NestedKey.beq]
    | bl c => simp only [nkey, Option.some.injEq] at h2; subst h2; cases p <;> cases c <;> simp [D.eqv, NestedKey.beq]
    | int c => simp only [nkey, Option.some.injEq] at h2; subst h2; cases p <;> simp only [D.eqv, NestedKey.beq] <;> exact beq_eq_decide _ _
    | str c => simp only [nkey, Option.some.injEq] at h2; subst h2; simp [D.eqv, NestedKey.beq]
    | _ => (simp only [nkey] at h2; cases h2)
  | .int p, b, x, y, h1, h2 => by
    simp only [nkey, Option.some.injEq] at h1
    subst h1
    cases b with
    | tup m => obtain ⟨ms, rfl, hm⟩ := nkey_tup h2; simp [D.eqv, NestedKey.beq]
    | non => simp only [nkey, Option.some.injEq] at h2; subst h2; simp [D.eqv, NestedKey.beq]
    | bl c => simp only [nkey, Option.some.injEq] at h2; subst h2; cases c <;> simp only [D.eqv, NestedKey.beq] <;> exact beq_eq_decide _ _
    | int c => simp only [nkey, Option.some.injEq] at h2; subst h2; simp only [D.eqv, NestedKey.beq]; exact beq_eq_decide _ _
    | str c => simp only [nkey, Option.some.injEq] at h2; subst h2; simp [D.eqv, NestedKey.beq]
    | _ => (simp only [nkey] at h2; cases h2)
  | .str p, b, x, y, h1, h2 => by
    simp only [nkey, Option.some.injEq] at h1
    subst h1
    cases b with
    | tup m => obtain ⟨ms, rfl, hm⟩ := nkey_tup h2; simp [D.eqv, NestedKey.beq]
    | non => simp only [nkey, Option.some.injEq] at h2; subst h2; simp [D.eqv, NestedKey.beq]
    | bl c => simp only [nkey, Option.some.injEq] at h2; subst h2; simp [D.eqv, NestedKey.beq]
    | int c => simp only [nkey, Option.some.injEq] at h2; subst h2; simp [D.eqv, NestedKey.beq]
    | str c =>
      simp only [nkey, Option.some.injEq] at h2
      subst h2
      simp only [D.eqv, NestedKey.beq]
      rw [Bool.eq_iff_iff]
      simp
    | _ => (simp only [nkey] at h2; cases h2)
  | .lst _, b, x, y, h1, h2 => by simp only [nkey] at h1; cases h1
  | .dic _ _, b, x, y, h1, h2 => by simp only [nkey] at h1; cases h1
  | .scr _, b, x, y, h1, h2 => by simp only [nkey] at h1; cases h1
  | .fn _, b, x, y, h1, h2 => by simp only [nkey] at h1; cases h1
  | .ptp _, b, x, y, h1, h2 => by simp only [nkey] at h1; cases h1
  | .ndc _ _, b, x, y, h1, h2 => by simp only [nkey] at h1; cases h1
theorem nkeys_eqv : ∀ (a b : List D) (x y : List NestedKey), nkeys a = some x → nkeys b = some y → D.eqvL a b = NestedKey.beqAll x y
  | [], b, x, y, h1, h2 => by
    simp only [nkeys, Option.some.injEq] at h1
    subst h1
    cases b with
    | nil => simp only [nkeys, Option.some.injEq] at h2; subst h2; simp [D.eqvL, NestedKey.beqAll]
    | cons c m =>
      unfold nkeys at h2
      split at h2
      · split at h2
        · cases h2; simp [D.eqvL, NestedKey.beqAll]
        · cases h2
      · cases h2
  | a :: l, b, x, y, h1, h2 => by
    unfold nkeys at h1
    split at h1
    · rename_i k hk
      split at h1
      · rename_i ks hks
        cases h1
        cases b with
        | nil => simp only [nkeys, Option.some.injEq] at h2; subst h2; simp [D.eqvL, NestedKey.beqAll]
        | cons c m =>
          unfold nkeys at h2
          split at h2
          · rename_i k2 hk2
            split at h2
            · rename_i ks2 hks2
              cases h2
              simp only [D.eqvL, NestedKey.beqAll]
              rw [nkey_eqv a c k k2 hk hk2, nkeys_eqv l m ks ks2 hks hks2]
            · cases h2
          · cases h2
      · cases h1
    · cases h1
end
section
variable {P : Program} {w : World} {K : FragW} {G H : Hp} {h : Heap}
def NKy (P : Program) (w : World) (H : Hp) (b : Addr) (nk : NestedKey) : Prop := ∀ h, HOk P w H h → (nestedKind P w).is h nk b
end
section
variable {X : Cx} {pins : List (Addr × Obj)} {σ : St} {H : Hp} {s : Shared}
end
section
variable {K : FragW} {G H : Hp}
theorem atN {kd : D} {nk : NestedKey} (hk : nkey kd = some nk) : ∀ {xs : List (NestedKey × Addr × Value)} {ws : List V} {ks vs : List D}, ks.map nkey = xs.map (fun q => some q.1) → Vals ws (xs.map (·.2.2)) → RepL K G ws vs →
    match lookD ks vs kd with
    | some d => ∃ q v, atKey xs nk = some q ∧ L2.RelV v q.2 ∧ Rep K G v d
    | none => atKey xs nk = none
  | [], ws, ks, vs, m, va, r => by
    cases ks with
    | nil => cases va; cases r; exact rfl
    | cons _ _ => cases m
  | q :: xs, ws, ks, vs, m, va, r => by
    cases ks with
    | nil => cases m
    | cons k ks =>
      rw [List.map_cons, List.map_cons, List.cons.injEq] at m
      rw [List.map_cons] at va
      cases va with
      | cons va vb =>
        cases r with
        | cons ra rb =>
          have ee := nkey_eqv k kd q.1 nk m.1 hk
          have ih := atN hk m.2 vb rb
          have e0 : atKey (q :: xs) nk = if q.1 = nk then some q.2 else atKey xs nk := by
            unfold atKey
            rw [List.find?_cons]
            by_cases hq : q.1 = nk
            · rw [if_pos hq, decide_eq_true hq]; rfl
            · rw [if_neg hq, decide_eq_false hq]
          by_cases hq : q.1 = nk
          · rw [lookD_pos (by rw [ee, hq]; exact NestedKey.beq_self nk)]
            exact ⟨q.2, _, by rw [e0, if_pos hq], va, ra⟩
          · rw [lookD_neg (by rw [ee, ← NestedKey.decide_eq]; exact decide_eq_false hq), e0, if_neg hq]
            exact ih
end
end Mi
namespace Mi
open PySem PySem.Spec PyProof.Rows L2 GxR
abbrev NV := NestedKey × Addr × V
def PrN (P : Program) (w : World) (K : Frag) (H : Hp) (p : Addr) (kv : NV) : Prop := SqT K H p [.ref kv.2.1, kv.2.2] ∧ NKy P w H kv.2.1 kv.1
section
variable {X : Cx} {pins : List (Addr × Obj)} {σ : St} {H : Hp} {s : Shared}
end
section
variable {P : Program} {w : World} {K : FragW} {G H : Hp}
theorem PrN.mono {as : List Addr} {kvs : List NV} (s : Same G H) (h : Paired (PrN P w K G) as kvs) (k : ∀ kv ∈ kvs, NKy P w H kv.2.1 kv.1) : Paired (PrN P w K H) as kvs := by
  induction h with
  | nil => exact .nil
  | cons q t ih => exact .cons ⟨s.seqT q.1, k _ List.mem_cons_self⟩ (ih fun kv hk => k kv (List.mem_cons_of_mem _ hk))
end
section
variable {X : Cx} {C : Cfg} {F G0 G H : Hp} {pn : Pn} {σ : St} {e e' : Env'} {a b : Expr} {x y z : Ex} {pos : Pos}
end
end Mi
namespace Mi
open PySem PySem.Spec PyProof.Rows L2 GxR
section
variable {X : Cx} {C : Cfg}
end
end Mi
namespace Mi
open PySem PySem.Spec PyProof.Rows L2 GxR
def GhostEq (X : Cx) (σ σ' : St) : Prop := σ'.length = σ.length ∧ ∀ (i : Nat) (x : Str), X.N[i]? = some x → Vis X.env.scope x → σ'[i]? = σ[i]?
theorem GhostEq.refl (X : Cx) (σ : St) : GhostEq X σ σ := ⟨rfl, fun _ _ _ _ => rfl⟩
theorem GhostEq.trans {X : Cx} {a b c : St} (h : GhostEq X a b) (g : GhostEq X b c) : GhostEq X a c := ⟨g.1.trans h.1, fun i x h1 h2 => (g.2 i x h1 h2).trans (h.2 i x h1 h2)⟩
def Gho (X : Cx) (g : Nat) : Prop := ∃ y, X.N[g]? = some y ∧ X.env.scope.names.lookup y = none
theorem GhostEq.set {X : Cx} {σ : St} {g : Nat} {w : Option V} (h : Gho X g) : GhostEq X σ (σ.set g w) := ⟨List.length_set, fun i x h1 h2 => by
  by_cases hg : g = i
  · subst hg
    obtain ⟨y, k1, k2⟩ := h
    rw [h1] at k1
    cases k1
    unfold Vis at h2
    rw [k2] at h2
    rcases h2 with z | z | z <;> cases z
  · exact List.getElem?_set_ne hg⟩
section
variable {X : Cx} {C : Cfg} {F G0 G G' H H' : Hp} {pn : Pn} {σ σ' : St} {e e' : Env'} {v : V} {d : D} {st : Stmt} {a b c : Expr} {x y z : Ex} {s t : S} {pos pos' : Pos} {nm f : Str}
theorem Fds.len {K : FragW} : ∀ {fvs : List (Str × V)} {fs : List (Str × FD)}, Fds K G σ e fvs fs → fvs.length = fs.length
  | _, _, .nil => rfl
  | _, _, .dat _ t => congrArg Nat.succ t.len
  | _, _, .gh _ _ _ t => congrArg Nat.succ t.len
theorem Rel.obj (R : Rel C F G0 G H pn σ e) {i : Nat} {p dx : Addr} {fs fs' : List (Str × FD)} {fvs fvs' : List (Str × V)} (hs : σ[i]? = some (some (.ref p))) (he : e[i]? = some (.ob nm fs)) (hH : H p = some (.ins (He.ga C.K nm) dx fvs)) (hf : Fds C.K G σ e fvs' fs') :
    Rel C F G0 G (upd H p (.ins (He.ga C.K nm) dx fvs')) pn σ (e.set i (.ob nm fs')) := by
  have ow0 : Own σ e i p := ⟨hs, _, he, rfl⟩
  obtain ⟨_, gp, fp, tp, _⟩ := R.ownH ow0
  have hi : i < e.length := (List.getElem?_eq_some_iff.mp he).1
  have pk : PinK σ e σ (e.set i (.ob nm fs')) := PinK.set he (.inr rfl)
  have ob : ∀ {j : Nat} {q : Addr}, Own σ (e.set i (.ob nm fs')) j q → Own σ e j q := fun {j q} ⟨a1, b, a2, a3⟩ => by
    by_cases hj : i = j
    · subst hj; exact ⟨a1, _, he, rfl⟩
    · rw [List.getElem?_set_ne hj] at a2; exact ⟨a1, b, a2, a3⟩
  have far : ∀ {j : Nat} {q : Addr}, i ≠ j → Own σ e j q → q ≠ p := fun {j q} hj o z => by
    subst z
    exact hj (R.ap i j q ow0 o)
  refine ⟨fun b o h => ?_, fun b o h => ?_, R.gf, fun P hP => ⟨(R.tb P hP).1.keep (upd_ne fun z => tp (by rw [← z]; exact hP)) fun c φ e => ?_, (R.tb P hP).2⟩, fun j b hb => ?_, fun j k q h1 h2 => R.ap j k q (ob h1) (ob h2), fun j n2 g2 hb => ?_, fun j x hx => R.fp j x (set_fr hx (fun _ z => nomatch z)), fun j q hj => ?_, by rw [List.length_set]; exact R.ln⟩
  · rw [upd_ne (ne_of_none h fp)]; exact R.fh b o h
  · rw [upd_ne (ne_of_none h gp)]; exact R.gh b o h
  · rw [upd_ne (fun z => by rw [z, hH] at e; unfold LamX.CodeO at e; cases e)]; exact e
  · by_cases hj : i = j
    · subst hj
      rw [List.getElem?_set_self hi] at hb
      cases hb
      trivial
    · rw [List.getElem?_set_ne hj] at hb
      have q := R.sl j b hb
      cases b with
      | un => trivial
      | im d => exact q
      | ow d =>
        obtain ⟨p', o', k0, k1, k2, k3, k4, k5⟩ := q
        exact ⟨p', o', k0, k1, k2, k3, by rw [upd_ne (far hj ⟨k0, _, hb, rfl⟩)]; exact k4, k5⟩
      | io d =>
        obtain ⟨p', o', k0, k1, k2, k3, k4, k5⟩ := q
        exact ⟨p', o', k0, k1, k2, k3, by rw [upd_ne (far hj ⟨k0, _, hb, rfl⟩)]; exact k4, k5⟩
      | ob n2 g2 => trivial
      | fr d => exact q
  · by_cases hj : i = j
    · subst hj
      rw [List.getElem?_set_self hi] at hb
      cases hb
      exact ⟨p, hs, gp, fp, tp, dx, fvs', upd_same, hf.keep (Same.refl G) pk⟩
    · rw [List.getElem?_set_ne hj] at hb
      obtain ⟨p', k1, k2⟩ := R.ob j n2 g2 hb
      exact ⟨p', k1, k2.keep k2.1 k2.2.1 (upd_ne (far hj ⟨k1, _, hb, rfl⟩)) (Same.refl G) pk⟩
  · obtain ⟨k1, b, k2, k3⟩ := R.pi j q hj
    obtain ⟨k4, b2, k5, k6⟩ := pk j b q k2 k3 k1
    exact ⟨k4, b2, k5, k6⟩
theorem RepL.dropLast {K : FragW} {vs : List V} {ds : List D} (r : RepL K G vs ds) : RepL K G vs.dropLast ds.dropLast := by
  rw [List.dropLast_eq_take, List.dropLast_eq_take, r.length]
  exact r.take _
end
end Mi
namespace Mi
open PySem PySem.Spec PyProof.Rows L2 GxR
inductive F2 {α β : Type} (P : α → β → Prop) : List α → List β → Prop
  | nil : F2 P [] []
  | cons {a : α} {b : β} {as : List α} {bs : List β} : P a b → F2 P as bs → F2 P (a :: as) (b :: bs)
inductive FldR (K : FragW) (G H : Hp) : List (Str × V) → List (Str × Bool) → List D → List Addr → Prop
  | nil : FldR K G H [] [] [] []
  | dat {f : Str} {v : V} {d : D} {fvs : List (Str × V)} {lay : List (Str × Bool)} {l : List D} {qs : List Addr} : Rep K G v d → FldR K G H fvs lay l qs → FldR K G H ((f, v) :: fvs) ((f, false) :: lay) (d :: l) qs
  | own {f : Str} {q : Addr} {o : HO} {d : D} {fvs : List (Str × V)} {lay : List (Str × Bool)} {l : List D} {qs : List Addr} : H q = some o → RepO K G o d → G q = none → FldR K G H fvs lay l qs → FldR K G H ((f, .ref q) :: fvs) ((f, true) :: lay) (d :: l) (q :: qs)
def gls : List (Str × Option Nat) → List Nat
  | [] => []
  | (_, none) :: gs => gls gs
  | (_, some g) :: gs => g :: gls gs
def gown (gs : List (Str × Option Nat)) : List (Str × Bool) := gs.map fun q => (q.1, q.2.isSome)
section
variable {X : Cx} {C : Cfg} {F G0 G G' H H' : Hp} {pn : Pn} {σ σ' : St} {e e' : Env'} {v : V} {d : D} {nm : Str}
theorem Fds.out (R : Rel C F G0 G H pn σ e) : ∀ {fvs : List (Str × V)} {fs : List (Str × FD)} {l : List D}, Fds C.K G σ e fvs fs → objD e fs = some l → ∃ qs, FldR C.K G H fvs (layOf fs) l qs ∧ F2 (fun g q => σ[g]? = some (some (V.ref q)) ∧ ∃ d, e[g]? = some (B.io d)) (ghs fs) qs
  | _, _, l, .nil, h => by
    unfold objD at h
    cases h
    exact ⟨[], .nil, .nil⟩
  | _, _, l, .dat r t, h => by
    unfold objD at h
    split at h
    · rename_i ds q
      cases h
      obtain ⟨qs, h1, h2⟩ := Fds.out R t q
      exact ⟨qs, .dat r h1, h2⟩
    · cases h
  | _, _, l, .gh (q := q0) h1 h2 h3 t, h => by
    unfold objD at h
    split at h
    · rename_i d hd
      split at h
      · rename_i ds q
        cases h
        obtain ⟨qs, k1, k2⟩ := Fds.out R t q
        obtain ⟨p', o, z, z1, z2, z3, z4, z5⟩ := R.sl _ _ hd
        rw [h1] at z
        cases z
        exact ⟨q0 :: qs, .own z4 z5 z1 k1, .cons ⟨h1, d, hd⟩ k2⟩
      · cases h
    · cases h
variable {k n : Nat} {f : Addr} {fd : FuncData} {ps : List Str} {m : Str} {pos apos : Pos} {a o : Expr} {es : List Expr} {xs : List Ex}
end
end Mi
namespace Mi
open PySem PySem.Spec PyProof.Rows L2 GxR
section
variable {X : Cx} {C : Cfg} {F G0 G G' H H' : Hp} {pn : Pn} {σ σ' : St} {e e' : Env'} {v : V} {d : D} {nm : Str}
theorem FldR.mem {K : FragW} : ∀ {fvs : List (Str × V)} {lay : List (Str × Bool)} {l : List D} {qs : List Addr}, FldR K G H fvs lay l qs → ∀ q ∈ qs, ∃ o d, H q = some o ∧ RepO K G o d ∧ G q = none
  | _, _, _, _, .nil, q, h => nomatch h
  | _, _, _, _, .dat _ t, q, h => t.mem q h
  | _, _, _, _, .own h1 h2 h3 t, q, h => by
    rcases List.mem_cons.mp h with rfl | h
    · exact ⟨_, _, h1, h2, h3⟩
    · exact t.mem q h
theorem FldR.len {K : FragW} : ∀ {gs : List (Str × Option Nat)} {fvs : List (Str × V)} {l : List D} {qs : List Addr}, FldR K G H fvs (gown gs) l qs → qs.length = (gls gs).length
  | [], _, _, _, h => by cases h; rfl
  | (f, none) :: gs, fvs, l, qs, h => by
    have h' : FldR K G H fvs ((f, false) :: gown gs) l qs := h
    cases h' with
    | dat r t => exact FldR.len (gs := gs) t
  | (f, some g) :: gs, fvs, l, qs, h => by
    have h' : FldR K G H fvs ((f, true) :: gown gs) l qs := h
    cases h' with
    | own k1 k2 k3 t => exact congrArg Nat.succ (FldR.len (gs := gs) t)
end
section
variable {P : Program} {w : World} {K : Frag} {mg : Str → Option Value} {base : Heap} {C : Cfg} {nm fn qual self : Str} {params : Arguments} {body : List Stmt} {scope : Scope} {f : Addr} {fd : FuncData} {N ps : List Str} {k : Nat} {s : S} {gs : List (Str × Option Nat)}
end
end Mi
namespace Mi
open PySem PySem.Spec PyProof.Rows L2 GxR
section
variable {X : Cx} {C : Cfg} {F G0 G G' H H' : Hp} {pn : Pn} {σ σ' : St} {e e' : Env'} {v : V} {d : D} {nm f : Str} {st : Stmt} {a b c : Expr} {x y z : Ex} {s t : S} {pos pos' : Pos}
variable {k n : Nat} {fa : Addr} {fd : FuncData} {ps : List Str} {x0 : Str} {p : Pos} {es : List Expr} {xs : List Ex}
theorem Rel.lend (R : Rel C F G0 G H pn σ e) {g : Nat} {q : Addr} {o : HO} (hs : σ[g]? = some (some (.ref q))) (he : e[g]? = some (.io d)) (gq : G q = none) (fq : F q = none) (tq : q ∉ C.tt) (hq : H q = some o) (ro : RepO C.K G o d) :
    Rel C (upd F q o) (noG G0 q) G H ((g, q) :: pn) σ (e.set g (.fr d)) := by
  have hg : g < e.length := (List.getElem?_eq_some_iff.mp he).1
  have ow0 : Own σ e g q := ⟨hs, _, he, rfl⟩
  have pk : PinK σ e σ (e.set g (.fr d)) := PinK.set he (.inr rfl)
  have back : ∀ {j : Nat} {q' : Addr}, Own σ (e.set g (.fr d)) j q' → j ≠ g ∧ Own σ e j q' := fun {j q'} ⟨a1, b, a2, a3⟩ => by
    by_cases hj : g = j
    · subst hj
      rw [List.getElem?_set_self hg] at a2
      cases a2
      cases a3
    · rw [List.getElem?_set_ne hj] at a2
      exact ⟨fun z => hj z.symm, a1, b, a2, a3⟩
  have far : ∀ {j : Nat} {q' : Addr}, j ≠ g → Own σ e j q' → q' ≠ q := fun {j q'} hj o z => by
    subst z
    exact hj (R.ap j g q' o ow0)
  refine ⟨fun b u h => ?_, R.gh, fun b h hn => ?_, fun P hP => ⟨(R.tb P hP).1, (R.tb P hP).2.1, by rw [upd_ne (fun z => tq (by rw [← z]; exact hP))]; exact (R.tb P hP).2.2⟩, fun j b hb => ?_, fun j k q' h1 h2 => R.ap j k q' (back h1).2 (back h2).2, fun j n2 f2 hb => ?_, fun j x hx => ?_, fun j q' hj => ?_, by rw [List.length_set]; exact R.ln⟩
  · by_cases z : b = q
    · rw [z, upd_same] at h; cases h; rw [z]; exact hq
    · rw [upd_ne z] at h; exact R.fh b u h
  · unfold noG
    by_cases z : b = q
    · rw [if_pos z, z]; exact gq
    · rw [if_neg z]; rw [upd_ne z] at h hn; exact R.gf b h hn
  · by_cases hj : g = j
    · subst hj
      rw [List.getElem?_set_self hg] at hb
      cases hb
      exact ⟨q, o, hs, gq, upd_same, ro⟩
    · rw [List.getElem?_set_ne hj] at hb
      have sl := R.sl j b hb
      cases b with
      | un => trivial
      | im d => exact sl
      | ow d =>
        obtain ⟨p', o', k0, k1, k2, k3, k4, k5⟩ := sl
        exact ⟨p', o', k0, k1, by rw [upd_ne (far (fun z => hj z.symm) ⟨k0, _, hb, rfl⟩)]; exact k2, k3, k4, k5⟩
      | io d =>
        obtain ⟨p', o', k0, k1, k2, k3, k4, k5⟩ := sl
        exact ⟨p', o', k0, k1, by rw [upd_ne (far (fun z => hj z.symm) ⟨k0, _, hb, rfl⟩)]; exact k2, k3, k4, k5⟩
      | ob n2 f2 => trivial
      | fr d =>
        obtain ⟨p', o', k0, k1, k2, k3⟩ := sl
        exact ⟨p', o', k0, k1, by rw [upd_ne (fun z => by rw [z, fq] at k2; cases k2)]; exact k2, k3⟩
  · by_cases hj : g = j
    · subst hj
      rw [List.getElem?_set_self hg] at hb
      cases hb
    · rw [List.getElem?_set_ne hj] at hb
      obtain ⟨p', k1, k2⟩ := R.ob j n2 f2 hb
      exact ⟨p', k1, k2.keep k2.1 (by rw [upd_ne (far (fun z => hj z.symm) ⟨k1, _, hb, rfl⟩)]; exact k2.2.1) rfl (Same.refl G) pk⟩
  · by_cases hj : g = j
    · subst hj; exact ⟨q, List.mem_cons_self⟩
    · rw [List.getElem?_set_ne hj] at hx
      obtain ⟨q', h⟩ := R.fp j x hx
      exact ⟨q', List.mem_cons_of_mem _ h⟩
  · rcases List.mem_cons.mp hj with z | z
    · cases z
      exact ⟨hs, _, List.getElem?_set_self hg, rfl⟩
    · obtain ⟨k1, b, k2, k3⟩ := R.pi j q' z
      obtain ⟨k4, b2, k5, k6⟩ := pk j b q' k2 k3 k1
      exact ⟨k4, b2, k5, k6⟩
theorem Rel.pnOne (R : Rel C F G0 G H pn σ e) {g : Nat} {q : Addr} (ow : Own σ e g q) : ∀ j, (j, q) ∈ pn → j = g := fun j h => by
  obtain ⟨h1, b, h2, h3⟩ := R.pi j q h
  cases b with
  | un => cases h3
  | im d => cases h3
  | ow d => cases h3
  | io d => exact R.ap j g q ⟨h1, _, h2, rfl⟩ ow
  | ob n2 f2 => exact R.ap j g q ⟨h1, _, h2, rfl⟩ ow
  | fr d =>
    obtain ⟨p', o', k0, k1, k2, _⟩ := R.sl j _ h2
    rw [h1] at k0
    cases k0
    rw [(R.ownH ow).2.2.1] at k2
    cases k2
theorem Rel.unlend {G1 : Hp} {g : Nat} {q : Addr} {o : HO} (R : Rel C (upd F q o) (noG G0 q) G H ((g, q) :: pn) σ e) (fq : F q = none) (tq : q ∉ C.tt) (ro : RepO C.K G1 o d) (s : Same G1 G) (h1 : ∀ j, (j, q) ∈ pn → j = g) : Rel C F G0 G H pn σ (e.set g (.io d)) := by
  obtain ⟨hs, b0, he, hp0⟩ := R.pi g q List.mem_cons_self
  have hg : g < e.length := (List.getElem?_eq_some_iff.mp he).1
  have hq : H q = some o := R.fh q o upd_same
  have nto : NT (some o) := fun xs z => by cases z; cases ro
  have gq : G q = none := by
    rw [R.gf q (by rw [upd_same]; exact fun z => nomatch z) (by rw [upd_same]; exact nto)]
    unfold noG
    rw [if_pos rfl]
  have noOw : ∀ j, ¬ Own σ e j q := fun j z => by
    have := (R.ownH z).2.2.1
    rw [upd_same] at this
    cases this
  have pk : PinK σ e σ (e.set g (.io d)) := PinK.set he (.inr rfl)
  have back : ∀ {j : Nat} {q' : Addr}, Own σ (e.set g (.io d)) j q' → (j = g ∧ q' = q) ∨ (j ≠ g ∧ Own σ e j q') := fun {j q'} ⟨a1, b, a2, a3⟩ => by
    by_cases hj : g = j
    · subst hj
      rw [hs] at a1
      cases a1
      exact .inl ⟨rfl, rfl⟩
    · rw [List.getElem?_set_ne hj] at a2
      exact .inr ⟨fun z => hj z.symm, a1, b, a2, a3⟩
  have oneq : ∀ {j : Nat} {q' : Addr}, Own σ e j q' → F q' = none := fun {j q'} o' => by
    have := (R.ownH o').2.2.1
    rw [upd_ne (fun z => noOw j (by rw [← z]; exact o'))] at this
    exact this
  refine ⟨fun b u h => ?_, R.gh, fun b h hn => ?_, fun P hP => ⟨(R.tb P hP).1, (R.tb P hP).2.1, ?_⟩, fun j b hb => ?_, fun j k q' x1 x2 => ?_, fun j n2 f2 hb => ?_, fun j x hx => ?_, fun j q' hj => ?_, by rw [List.length_set]; exact R.ln⟩
  · exact R.fh b u (by rw [upd_ne (ne_of_none h fq)]; exact h)
  · have hne : b ≠ q := fun z => h (by rw [z]; exact fq)
    have := R.gf b (by rw [upd_ne hne]; exact h) (by rw [upd_ne hne]; exact hn)
    rw [this]
    unfold noG
    rw [if_neg hne]
  · have := (R.tb P hP).2.2
    rw [upd_ne (fun z => tq (by rw [← z]; exact hP))] at this
    exact this
  · by_cases hj : g = j
    · subst hj
      rw [List.getElem?_set_self hg] at hb
      cases hb
      exact ⟨q, o, hs, gq, fq, tq, hq, ro.mono s⟩
    · rw [List.getElem?_set_ne hj] at hb
      have sl := R.sl j b hb
      cases b with
      | un => trivial
      | im d => exact sl
      | ow d =>
        obtain ⟨p', o', k0, k1, k2, k3, k4, k5⟩ := sl
        exact ⟨p', o', k0, k1, oneq ⟨k0, _, hb, rfl⟩, k3, k4, k5⟩
      | io d =>
        obtain ⟨p', o', k0, k1, k2, k3, k4, k5⟩ := sl
        exact ⟨p', o', k0, k1, oneq ⟨k0, _, hb, rfl⟩, k3, k4, k5⟩
      | ob n2 f2 => trivial
      | fr d2 =>
        obtain ⟨p', o', k0, k1, k2, k3⟩ := sl
        have hne : p' ≠ q := fun z => by
          obtain ⟨q2, hq2⟩ := R.fp j d2 hb
          have := (R.pi j q2 hq2).1
          rw [k0] at this
          cases this
          rcases List.mem_cons.mp hq2 with w | w
          · cases w; exact hj rfl
          · rw [z] at w; exact hj (h1 j w).symm
        rw [upd_ne hne] at k2
        exact ⟨p', o', k0, k1, k2, k3⟩
  · rcases back x1 with ⟨rfl, rfl⟩ | ⟨hj, o1⟩
    · rcases back x2 with ⟨rfl, _⟩ | ⟨hk, o2⟩
      · rfl
      · exact absurd o2 (noOw k)
    · rcases back x2 with ⟨rfl, rfl⟩ | ⟨hk, o2⟩
      · exact absurd o1 (noOw j)
      · exact R.ap j k q' o1 o2
  · by_cases hj : g = j
    · subst hj
      rw [List.getElem?_set_self hg] at hb
      cases hb
    · rw [List.getElem?_set_ne hj] at hb
      obtain ⟨p', k1, k2⟩ := R.ob j n2 f2 hb
      exact ⟨p', k1, k2.keep k2.1 (oneq ⟨k1, _, hb, rfl⟩) rfl (Same.refl G) pk⟩
  · by_cases hj : g = j
    · subst hj
      rw [List.getElem?_set_self hg] at hx
      cases hx
    · rw [List.getElem?_set_ne hj] at hx
      obtain ⟨q', h⟩ := R.fp j x hx
      rcases List.mem_cons.mp h with w | w
      · cases w; exact absurd rfl hj
      · exact ⟨q', w⟩
  · obtain ⟨k1, b, k2, k3⟩ := R.pi j q' (List.mem_cons_of_mem _ hj)
    obtain ⟨k4, b2, k5, k6⟩ := pk j b q' k2 k3 k1
    exact ⟨k4, b2, k5, k6⟩
end
end Mi
namespace Mi
open PySem PySem.Spec PyProof.Rows L2 GxR
def lstF1 : D → Option (List D)
  | .lst l => some l
  | _ => none
section
variable {X : Cx} {C : Cfg} {F G0 G G' H H' : Hp} {pn : Pn} {σ σ' : St} {e e' : Env'} {v : V} {d : D} {nm f : Str} {st : Stmt} {a b c tg0 : Expr} {x y z : Ex} {s t : S} {pos pos' p tpos : Pos}
theorem walksF_list {p : Addr} {xs : List V} {ds : List D} (q : F p = some (.lst xs)) (r : RepL C.K G xs ds) : WalksF C F G (Itl C.K p) ds where
  go := fun i G1 H hi s1 s2 s3 => by
    have hx : i < xs.length := by rw [r.length]; exact hi
    exact ⟨xs, xs[i], SqL.of (s3 _ _ q), List.getElem?_eq_getElem hx⟩
  stop := fun i G1 H hi s1 s2 s3 => ⟨xs, SqL.of (s3 _ _ q), by rw [r.length]; exact Nat.le_of_eq hi.symm⟩
  yld := fun i d G1 H H' x hd s1 s2 s3 t y => by
    obtain ⟨rfl, y⟩ := y
    obtain ⟨v, hv, rv⟩ := r.getD hd
    have e1 := y xs (SqL.of (s3 _ _ q))
    rw [hv] at e1
    cases e1
    exact ⟨G1, Grow.refl s2 t, rv.mono s1⟩
theorem for_turns {tg : Tg} {tb : TS} {items : List D} {J : It} {H1 G1 : Hp} {e2 : Env'} {o : Out} (hb : ∀ D σ H, tS C s D σ H → tb D σ H) {D : Ends} {σ : St} (R1 : Rel C F G0 G1 H1 pn σ e2) (W1 : WalksF C F G1 J items) (he' : forLoop (fun d e => match tg.bind d e with
          | some e3 => ex s e3
          | none => none) items e2 = some o) (k : OutOk C F G0 G1 pn D o) : ∃ W : Nat → Nat → St → Hp → Prop, (∃ m, W 0 m σ H1) ∧ ∀ i m σ H, W i m σ H →
  (J.stop i H ∧ D.nx σ H) ∨ (J.go i H ∧ ∃ N : St → Hp → Prop, (∀ σ' H', N σ' H' → ∃ m', m' < m ∧ W (i + 1) m' σ' H') ∧ ∀ x H', J.yld i H x H' → tG C tg x σ H' fun σ2 H2 => tb { D with nx := N, ct := N, bk := D.nx } σ2 H2) := by
  let fb : Mi.D → Env' → Option Out := fun d e => match tg.bind d e with
    | some e3 => ex s e3
    | none => none
  refine ⟨fun i m σ H => m = items.length - i ∧ i ≤ items.length ∧ ∃ (G2 : Hp) (e3 : Env'), Same G1 G2 ∧ Rel C F G0 G2 H pn σ e3 ∧ forLoop fb (items.drop i) e3 = some o, ⟨_, rfl, Nat.zero_le _, G1, e2, Same.refl G1, R1, he'⟩, ?_⟩
  rintro i m σ2 H2 ⟨rfl, hi, G2, e3, s2, R2, hl⟩
  by_cases hlt : i < items.length
  · refine .inr ⟨W1.go i G2 H2 hlt s2 R2.gh R2.fh, _, fun σ' H' h => ⟨items.length - (i + 1), by omega, h⟩, fun x0 H3 yl => ?_⟩
    have hget : items[i]? = some items[i] := List.getElem?_eq_getElem hlt
    obtain ⟨G3, gr, rx⟩ := W1.yld i _ G2 H2 H3 x0 hget s2 R2.gh R2.fh R2.tabs yl
    have R3 := R2.grow gr
    rw [List.drop_eq_getElem_cons hlt] at hl
    unfold forLoop at hl
    have s23 := s2.trans gr.gg
    have again : ∀ {e5 : Env'}, forLoop fb (items.drop (i + 1)) e5 = some o → ∀ σ' G' H', Rel C F G0 G' H' pn σ' e5 → Same G3 G' → items.length - (i + 1) = items.length - (i + 1) ∧ i + 1 ≤ items.length ∧ ∃ (G2 : Hp) (e3 : Env'), Same G1 G2 ∧ Rel C F G0 G2 H' pn σ' e3 ∧ forLoop fb (items.drop (i + 1)) e3 = some o :=
      fun {e5} hl5 σ' G' H' R' s' => ⟨rfl, by omega, G', e5, s23.trans s', R', hl5⟩
    have go : ∀ {o4 : Out}, fb items[i] e3 = some o4 → OutOk C F G0 G3 pn { D with nx := fun σ H => items.length - (i + 1) = items.length - (i + 1) ∧ i + 1 ≤ items.length ∧ ∃ (G2 : Hp) (e3 : Env'), Same G1 G2 ∧ Rel C F G0 G2 H pn σ e3 ∧ forLoop fb (items.drop (i + 1)) e3 = some o, ct := fun σ H => items.length - (i + 1) = items.length - (i + 1) ∧ i + 1 ≤ items.length ∧ ∃ (G2 : Hp) (e3 : Env'), Same G1 G2 ∧ Rel C F G0 G2 H pn σ e3 ∧ forLoop fb (items.drop (i + 1)) e3 = some o, bk := D.nx } o4 →
        tG C tg x0 σ2 H3 fun σ2 H2 => tb { D with nx := fun σ H => items.length - (i + 1) = items.length - (i + 1) ∧ i + 1 ≤ items.length ∧ ∃ (G2 : Hp) (e3 : Env'), Same G1 G2 ∧ Rel C F G0 G2 H pn σ e3 ∧ forLoop fb (items.drop (i + 1)) e3 = some o, ct := fun σ H => items.length - (i + 1) = items.length - (i + 1) ∧ i + 1 ≤ items.length ∧ ∃ (G2 : Hp) (e3 : Env'), Same G1 G2 ∧ Rel C F G0 G2 H pn σ e3 ∧ forLoop fb (items.drop (i + 1)) e3 = some o, bk := D.nx } σ2 H2 := fun {o4} h4 k4 => by
      have h4' : (match tg.bind items[i] e3 with
        | some e3 => ex s e3
        | none => none) = some o4 := h4
      split at h4'
      · rename_i e5 b5
        exact ⟨F, G0, G3, pn, e3, _, e5, R3, rx, b5, fun σ5 R5 _ => hb _ _ _ ⟨F, G0, G3, pn, e5, o4, R5, h4', k4⟩⟩
      · cases h4'
    split at hl
    · rename_i e4 h4
      exact go h4 (again hl)
    · rename_i e4 h4
      exact go h4 (again hl)
    · rename_i e4 h4
      cases hl
      exact go h4 fun σ' G' H' R' s' => k σ' G' H' R' (s23.trans s')
    · rename_i v4 e4 h4
      cases hl
      exact go h4 fun v σ' G' H' R' s' rv => k v σ' G' H' R' (s23.trans s') rv
    · rename_i v4 e4 h4
      cases hl
      exact go h4 fun p o σ' G' H' R' s' => k p o σ' G' H' R' (s23.trans s')
    · cases hl
  · have hid : items.drop i = [] := List.drop_eq_nil_of_le (by omega)
    rw [hid] at hl
    unfold forLoop at hl
    cases hl
    exact .inl ⟨W1.stop i G2 H2 (by omega) s2 R2.gh R2.fh, k σ2 G2 H2 R2 s2⟩
end
end Mi
namespace Mi
open PySem PySem.Spec PyProof.Rows L2 GxR
def fAdd (F : Hp) : List (Addr × HO) → Hp
  | [] => F
  | (p, o) :: L => upd (fAdd F L) p o
def gAdd (G0 : Hp) : List (Addr × HO) → Hp
  | [] => G0
  | (p, _) :: L => noG (gAdd G0 L) p
inductive FldL (K : FragW) (G : Hp) : List (Str × V) → List (Str × Bool) → List D → List (Addr × HO) → Prop
  | nil : FldL K G [] [] [] []
  | dat {f : Str} {v : V} {d : D} {fvs : List (Str × V)} {lay : List (Str × Bool)} {l : List D} {L : List (Addr × HO)} : Rep K G v d → FldL K G fvs lay l L → FldL K G ((f, v) :: fvs) ((f, false) :: lay) (d :: l) L
  | own {f : Str} {q : Addr} {o : HO} {d : D} {fvs : List (Str × V)} {lay : List (Str × Bool)} {l : List D} {L : List (Addr × HO)} : RepO K G o d → FldL K G fvs lay l L → FldL K G ((f, .ref q) :: fvs) ((f, true) :: lay) (d :: l) ((q, o) :: L)
section
variable {X : Cx} {C : Cfg} {F F' G0 G0' G G' H H' : Hp} {pn : Pn} {σ σ' : St} {e e' : Env'} {v : V} {d : D} {nm f : Str} {x y : Ex} {a b : Expr} {es : List Expr} {xs : List Ex} {p pos : Pos}
theorem fAdd_none {L : List (Addr × HO)} {q : Addr} : (∀ r ∈ L, r.1 ≠ q) → fAdd F L q = F q := by
  induction L with
  | nil => exact fun _ => rfl
  | cons r L ih =>
    intro h
    unfold fAdd
    rw [upd_ne (fun z => h r List.mem_cons_self z.symm)]
    exact ih fun r hr => h r (List.mem_cons_of_mem _ hr)
theorem FldL.mono {K : FragW} (s : Same G G') : ∀ {fvs : List (Str × V)} {lay : List (Str × Bool)} {l : List D} {L : List (Addr × HO)}, FldL K G fvs lay l L → FldL K G' fvs lay l L
  | _, _, _, _, .nil => .nil
  | _, _, _, _, .dat r t => .dat (r.mono s) (t.mono s)
  | _, _, _, _, .own r t => .own (r.mono s) (t.mono s)
def Pln (o : HO) : Prop := NT (some o) ∧ ∀ c q, o ≠ LamX.CodeO c q
theorem Rel.uns : ∀ {L : List (Addr × HO)}, Rel C (fAdd F L) (gAdd G0 L) G H pn σ e → (L.map (·.1)).Nodup → (∀ r ∈ L, Pln r.2 ∧ F r.1 = none ∧ r.1 ∉ C.tt ∧ ∀ i q, (i, q) ∈ pn → q ≠ r.1) → Rel C F G0 G H pn σ e ∧ ∀ r ∈ L, H r.1 = some r.2 ∧ G r.1 = none ∧ ∀ j, ¬ Own σ e j r.1
  | [], R, _, _ => ⟨R, fun r h => nomatch h⟩
  | (q, o) :: L, R, nd, h => by
    obtain ⟨n1, n2⟩ := List.nodup_cons.mp nd
    obtain ⟨h1, h2, h3, h4⟩ := h _ List.mem_cons_self
    have R' : Rel C (upd (fAdd F L) q o) (noG (gAdd G0 L) q) G H pn σ e := R
    obtain ⟨u1, u2, u3, u4⟩ := R'.un1 (o' := o) (by
      rw [fAdd_none fun r hr z => n1 (List.mem_map.mpr ⟨r, hr, z⟩)]
      exact h2) h3 h4 h1.1 h1.2
    have hsame : upd H q o = H := by
      funext b
      by_cases z : b = q
      · rw [z, upd_same, u1]
      · rw [upd_ne z]
    rw [hsame] at u4
    obtain ⟨R2, k⟩ := Rel.uns (L := L) u4 n2 fun r hr => h r (List.mem_cons_of_mem _ hr)
    refine ⟨R2, fun r hr => ?_⟩
    rcases List.mem_cons.mp hr with rfl | hr
    · exact ⟨u1, u2, u3⟩
    · exact k r hr
variable {its : List PIt}
end
end Mi
namespace Mi
open PySem PySem.Spec PyProof.Rows L2 GxR
section
variable {prog : Program} {w : World} {K : Type} [DecidableEq K] {knd : KeyKind prog w K} {A : Around} {E : Value → Shared → Prop} {s : Shared}
end
theorem KV.keys {kvs : List (Key × V)} {vs : List (Key × Value)} (r : KV kvs vs) : kvs.map (·.1) = vs.map (·.1) := by
  unfold KV at r
  induction r with
  | nil => rfl
  | cons h t ih => rw [List.map_cons, List.map_cons, ih, h.1]
end Mi
namespace Mi
open PySem PySem.Spec PyProof.Rows L2 GxR
section
variable {X : Cx} {C : Cfg} {F G0 G H : Hp} {pn : Pn} {σ : St} {e e' : Env'} {m a b : Expr} {xm x y : Ex} {pos : Pos}
end
end Mi
namespace Mi
open PySem PySem.Spec PyProof.Rows L2 GxR
section
variable {X : Cx} {C : Cfg}
def rMulWA : R2 := fun x y H Q => rMulA x y H Q ∨ rI CMulW (fun i j => .int (i * j)) x y H Q
theorem op_mulWA : OpR X (binaryOp .Mult) rMulWA := op_mulA.or op_mulW
def mulWF (ds : List D) : Option D := match ds with
  | [.int a, .int b] => if a.natAbs.log2 + b.natAbs.log2 < 1000000 then some (.int (a * b)) else mulF [.int a, .int b]
  | ds => mulF ds
theorem mulWF_two : Two mulWF := fun ds d h => by
  unfold mulWF at h
  split at h
  · rfl
  · exact mulF_two _ _ h
theorem mulWF_ok : Ok2 C rMulWA mulWF := fun x y a b d G H Q s t r1 r2 e k => by
  unfold mulWF at e
  split at e
  · rename_i i j hq
    cases hq
    split at e
    · rename_i hz
      cases e
      cases r1
      cases r2
      exact .inr ⟨i, j, rfl, rfl, hz, res_flat s t k (.int _)⟩
    · exact .inl (mulF_ok x y _ _ d G H Q s t r1 r2 e k)
  · exact .inl (mulF_ok x y _ _ d G H Q s t r1 r2 e k)
end
end Mi
namespace Mi
open PySem PySem.Spec PyProof.Rows L2 GxR
def tIV (C : Cfg) (h : D → Option (List D)) (g : Nat) : TI := fun σ H R => ∃ (F G0 G : Hp) (pn : Pn) (e : Env') (d : D) (items : List D), Rel C F G0 G H pn σ e ∧ e[g]? = some (.fr d) ∧ h d = some items ∧ ∀ J, WalksF C F G J items → R J H
section
variable {X : Cx} {C : Cfg} {F G0 G G' H H' : Hp} {pn : Pn} {σ σ' : St} {e e' : Env'} {v : V} {d : D} {nm f : Str} {st : Stmt} {a b c tg0 : Expr} {x y z : Ex} {s t : S} {pos pos' p tpos : Pos}
theorem ci_varL {g : Nat} (hK : C.K.f = X.K) (ha : PE X b (tVar g)) : PI X tg0 b (tIV C lstF1 g) := (pi_list ha).imp fun σ H R q => by
  obtain ⟨F, G0, G, pn, e, d, items, Rr, he, hh, k⟩ := q
  unfold lstF1 at hh
  split at hh
  · cases hh
    obtain ⟨p, o, z, z1, z2, z3⟩ := Rr.sl g _ he
    cases z3 with
    | lst r =>
      refine ⟨.ref p, z, p, rfl, ⟨_, SqL.of (Rr.fh _ _ z2)⟩, ?_⟩
      rw [← hK]
      exact k _ (walksF_list z2 r)
  · cases hh
theorem forV_of {hh : D → Option (List D)} {g : Nat} {tg : Tg} {D : Ends} {σ : St} {H : Hp} (q : tS C (.forV hh g tg s) D σ H) : tFor (tIV C hh g) (tG C tg) (tS C s) D σ H := by
  obtain ⟨F, G0, G, pn, e, o, R, he, k⟩ := q
  unfold ex at he
  split at he
  · rename_i d hio
    split at he
    · rename_i items hit
      split at he
      · rename_i o1 hl
        cases he
        obtain ⟨q, oq, z, z1, z2, z3, z4, z5⟩ := R.sl g _ hio
        have R2 := R.lend z hio z1 z2 z3 z4 z5
        have one := R.pnOne (⟨z, _, hio, rfl⟩ : Own σ e g q)
        have back : ∀ {σ' : St} {G' H' : Hp} {e' : Env'}, Rel C (upd F q oq) (noG G0 q) G' H' ((g, q) :: pn) σ' e' → Same G G' → Rel C F G0 G' H' pn σ' (e'.set g (.io d)) := fun {σ' G' H' e'} R' s' => R'.unlend z2 z3 z5 s' one
        refine ⟨_, _, G, _, _, d, items, R2, List.getElem?_set_self (List.getElem?_eq_some_iff.mp hio).1, hit, fun J W => for_turns (o := o1) (fun _ _ _ h => h) R2 W hl ?_⟩
        cases o1 with
        | nx e1 => exact fun σ' G' H' R' s' => k σ' G' H' (back R' s') s'
        | rt d1 e1 => exact fun v σ' G' H' R' s' rv => k v σ' G' H' (back R' s') s' rv
        | ro d1 e1 => exact fun p o σ' G' H' R' s' g1 f1 => k p o σ' G' H' (back R' s') s' g1 (by
            by_cases w : p = q
            · rw [w, upd_same] at f1; cases f1
            · rw [upd_ne w] at f1; exact f1)
        | bk e1 => exact fun σ' G' H' R' s' => k σ' G' H' (back R' s') s'
        | ct e1 => exact fun σ' G' H' R' s' => k σ' G' H' (back R' s') s'
      · cases he
    · cases he
  · cases he
theorem cs_forV {tgx iter : Expr} {body : List Stmt} {hh : D → Option (List D)} {g : Nat} {tg : Tg} (hp : PassesOwn (model X.prog X.w) X.A X.env X.xe) (hc : X.calm = true) (hi : PI X tgx iter (tIV C hh g)) (hg : PG X tgx (tG C tg)) (hb : PSs X body (tS C s))
    (hs : ∀ x, foldedSetIterable iter X.env x = pure x := by intro _; rfl) : PS X (.For tgx iter body [] pos) (tS C (.forV hh g tg s)) := (ps_for hp hc hi hg hb hs).imp fun D σ H q => forV_of q
end
end Mi
namespace Mi.T
open PySem PySem.Spec PyProof.Rows L2 GxR
inductive Sl where
  | ex (b : B)
  | any
  | soft
abbrev Pt := List Sl
def _root_.Mi.B.noIo : B → Bool
  | .io _ => false
  | .ob _ _ => false
  | .fr _ => false
  | _ => true
def _root_.Mi.B.hard (b : B) : Bool := b.isOw || b.pin
def okB : Sl → B → Prop
  | .ex b, c => c = b
  | .any, c => c.noIo = true
  | .soft, c => c.hard = false
inductive Mt : Pt → Env' → Prop
  | nil : Mt [] []
  | cons {s : Sl} {b : B} {p : Pt} {e : Env'} : okB s b → Mt p e → Mt (s :: p) (b :: e)
def Sl.noIo : Sl → Bool
  | .ex b => b.noIo
  | _ => true
def Sl.noOw : Sl → Bool
  | .ex b => !b.hard
  | .any => false
  | .soft => true
theorem Mt.get : ∀ {p : Pt} {e : Env'} {i : Nat} {s : Sl}, Mt p e → p[i]? = some s → ∃ b, e[i]? = some b ∧ okB s b
  | _, _, _, _, .nil, h => by simp at h
  | _, _, 0, _, .cons h _, q => by
    simp only [List.getElem?_cons_zero, Option.some.injEq] at q
    subst q
    exact ⟨_, rfl, h⟩
  | _, _, i + 1, s, .cons _ t, q => by
    obtain ⟨b, h1, h2⟩ := Mt.get (i := i) t (by simpa using q)
    exact ⟨b, by simpa using h1, h2⟩
theorem Mt.set : ∀ {p : Pt} {e : Env'} {s : Sl} {b : B} (i : Nat), Mt p e → okB s b → Mt (p.set i s) (e.set i b)
  | _, _, _, _, _, .nil, _ => .nil
  | _, _, _, _, 0, .cons _ t, h => .cons h t
  | _, _, _, _, i + 1, .cons a t, h => .cons a (Mt.set i t h)
theorem Sl.noIo_of {s : Sl} {b : B} (h : okB s b) (q : s.noIo = true) : b.noIo = true := by
  cases s with
  | ex c => cases h; exact q
  | any => exact h
  | soft => cases b <;> first | rfl | cases h
theorem Sl.noOw_of {s : Sl} {b : B} (h : okB s b) (q : s.noOw = true) : b.hard = false := by
  cases s with
  | ex c => cases h; simpa [Sl.noOw] using q
  | any => cases q
  | soft => exact h
def maskP : List Nat → Pt → Pt
  | m :: ms, s :: p => (match m with
    | 0 => s
    | 1 => .any
    | _ => .soft) :: maskP ms p
  | [], p => p
  | _, [] => []
def maskOk : List Nat → Pt → Bool
  | m :: ms, s :: p => (match m with
    | 0 => true
    | 1 => s.noIo
    | _ => s.noOw) && maskOk ms p
  | _, _ => true
theorem Mt.mask : ∀ (m : List Nat) {p : Pt} {e : Env'}, Mt p e → maskOk m p = true → Mt (maskP m p) e
  | [], _, _, h, _ => by unfold maskP; exact h
  | _ :: _, _, _, .nil, _ => by unfold maskP; exact .nil
  | k :: ms, _, _, .cons a t, h => by
    unfold maskOk at h
    obtain ⟨h1, h2⟩ := Bool.and_eq_true_iff.mp h
    unfold maskP
    refine .cons ?_ (Mt.mask ms t h2)
    split at h1
    · exact a
    · exact Sl.noIo_of a h1
    · exact Sl.noOw_of a h1
def gp (p : Pt) : Rv → Option D
  | .pers d => some d
  | .bor i => (match p[i]? with
    | some (.ex (.im (.lst l))) => some (.lst l)
    | some (.ex (.ow (.lst l))) => some (.lst l)
    | some (.ex (.io (.lst l))) => some (.lst l)
    | some (.ex (.im (.dic k v))) => some (.dic k v)
    | some (.ex (.im (.ndc k v))) => some (.ndc k v)
    | some (.ex (.ow (.dic k v))) => some (.dic k v)
    | some (.ex (.ow (.ndc k v))) => some (.ndc k v)
    | some (.ex (.io (.dic k v))) => some (.dic k v)
    | some (.ex (.io (.ndc k v))) => some (.ndc k v)
    | some (.ex (.fr (.lst l))) => some (.lst l)
    | some (.ex (.fr (.dic k v))) => some (.dic k v)
    | _ => none)
theorem gp_ok {p : Pt} {e : Env'} {r : Rv} {d : D} (m : Mt p e) (h : gp p r = some d) : r.get e = some d := by
  cases r with
  | pers x => exact h
  | bor i =>
    simp only [gp] at h
    split at h <;> first | cases h | skip
    all_goals
      rename_i q
      obtain ⟨b, h1, h2⟩ := m.get q
      cases h2
      simp only [Rv.get, h1, B.data]
def gps (p : Pt) : List Rv → Option (List D)
  | [] => some []
  | r :: rs => (match gp p r with
    | some d => (match gps p rs with
      | some ds => some (d :: ds)
      | none => none)
    | none => none)
theorem gps_ok {p : Pt} {e : Env'} (m : Mt p e) : ∀ {rs : List Rv} {ds : List D}, gps p rs = some ds → gets e rs = some ds
  | [], _, h => h
  | r :: rs, ds, h => by
    unfold gps at h
    split at h
    · rename_i d hd
      split at h
      · rename_i es he
        cases h
        unfold gets
        rw [gp_ok m hd, gps_ok m he]
      · cases h
    · cases h
def sp (p : Pt) : Rv → Option (D × Pt)
  | .pers d => some (d, p)
  | .bor i => (match p[i]? with
    | some (.ex (.im d)) => some (d, p)
    | some (.ex (.ow d)) => some (d, p.set i (.ex (.im d)))
    | _ => none)
theorem sp_ok {p p' : Pt} {e : Env'} {r : Rv} {d : D} (m : Mt p e) (h : sp p r = some (d, p')) : ∃ e', r.settle e = some (d, e') ∧ Mt p' e' := by
  cases r with
  | pers x => cases h; exact ⟨e, rfl, m⟩
  | bor i =>
    simp only [sp] at h
    split at h <;> first | cases h | skip
    all_goals
      rename_i q
      obtain ⟨b, h1, h2⟩ := m.get q
      cases h2
      simp only [Rv.settle, h1]
      first | exact ⟨_, rfl, m⟩ | exact ⟨_, rfl, m.set i rfl⟩
def sps (p : Pt) : List Rv → Option (List D × Pt)
  | [] => some ([], p)
  | r :: rs => (match sp p r with
    | some (d, p1) => (match sps p1 rs with
      | some (ds, p2) => some (d :: ds, p2)
      | none => none)
    | none => none)
theorem sps_ok : ∀ {rs : List Rv} {ds : List D} {p p' : Pt} {e : Env'}, Mt p e → sps p rs = some (ds, p') → ∃ e', settles e rs = some (ds, e') ∧ Mt p' e'
  | [], _, _, _, e, m, h => by cases h; exact ⟨e, rfl, m⟩
  | r :: rs, ds, p, p', e, m, h => by
    unfold sps at h
    split at h
    · rename_i d p1 hd
      split at h
      · rename_i es p2 he
        cases h
        obtain ⟨e1, h1, m1⟩ := sp_ok m hd
        obtain ⟨e2, h2, m2⟩ := sps_ok m1 he
        exact ⟨e2, by unfold settles; rw [h1]; show (match settles e1 rs with
          | some (ds, e2) => some (d :: ds, e2)
          | none => none) = _; rw [h2] <;> rfl, m2⟩
      · cases h
    · cases h
mutual
def _root_.Mi.Tg.bp : Tg → D → Pt → Option Pt
  | .nm i, d, p => (match p[i]? with
    | some s => if s.noIo then some (p.set i (.ex (.im d))) else none
    | none => none)
  | .tp ts, .tup ds, p => Tg.bps ts ds p
  | .tp ts, .lst ds, p => Tg.bps ts ds p
  | .tp _, _, _ => none
def _root_.Mi.Tg.bps : List Tg → List D → Pt → Option Pt
  | [], [], p => some p
  | t :: ts, d :: ds, p => (match t.bp d p with
    | some p1 => Tg.bps ts ds p1
    | none => none)
  | _, _, _ => none
end
theorem bind_nm {i : Nat} {d : D} {e : Env'} {b : B} (h : e[i]? = some b) (h2 : b.noIo = true) : (Tg.nm i).bind d e = some (e.set i (.im d)) := by
  unfold Tg.bind
  rw [h]
  cases b <;> first | rfl | cases h2
mutual
theorem _root_.Mi.Tg.bp_ok : ∀ (t : Tg) {d : D} {p p' : Pt} {e : Env'}, Mt p e → t.bp d p = some p' → ∃ e', t.bind d e = some e' ∧ Mt p' e'
  | .nm i, d, p, p', e, m, h => by
    unfold Tg.bp at h
    split at h
    · rename_i s q
      split at h
      · rename_i hz
        cases h
        obtain ⟨b, h1, h2⟩ := m.get q
        exact ⟨_, bind_nm h1 (Sl.noIo_of h2 hz), m.set i rfl⟩
      · cases h
    · cases h
  | .tp ts, d, p, p', e, m, h => by
    cases d <;> first | (unfold Tg.bp at h; cases h; done) | skip
    all_goals
      rename_i ds
      unfold Tg.bp at h
      obtain ⟨e', h1, m1⟩ := Tg.bps_ok ts m h
      exact ⟨e', by unfold Tg.bind; exact h1, m1⟩
theorem _root_.Mi.Tg.bps_ok : ∀ (ts : List Tg) {ds : List D} {p p' : Pt} {e : Env'}, Mt p e → Tg.bps ts ds p = some p' → ∃ e', Tg.binds ts ds e = some e' ∧ Mt p' e'
  | [], ds, p, p', e, m, h => by
    cases ds with
    | nil => unfold Tg.bps at h; cases h; exact ⟨e, by unfold Tg.binds; rfl, m⟩
    | cons d ds => unfold Tg.bps at h; cases h
  | t :: ts, ds, p, p', e, m, h => by
    cases ds with
    | nil => unfold Tg.bps at h; cases h
    | cons d ds =>
      unfold Tg.bps at h
      split at h
      · rename_i p1 q
        obtain ⟨e1, h1, m1⟩ := Tg.bp_ok t m q
        obtain ⟨e2, h2, m2⟩ := Tg.bps_ok ts m1 h
        exact ⟨e2, by unfold Tg.binds; rw [h1]; exact h2, m2⟩
      · cases h
end
def Ev (x : Ex) (p : Pt) (r : Rv) (p' : Pt) : Prop := ∀ e, Mt p e → ∃ e', ev x e = some (r, e') ∧ Mt p' e'
def Evs (xs : List Ex) (p : Pt) (rs : List Rv) (p' : Pt) : Prop := ∀ e, Mt p e → ∃ e', evs xs e = some (rs, e') ∧ Mt p' e'
def Evt (cs : List Ex) (p : Pt) (b : Bool) (p' : Pt) : Prop := ∀ e, Mt p e → ∃ e', evt cs e = some (b, e') ∧ Mt p' e'
section
variable {x y z : Ex} {xs : List Ex} {p p1 p2 p3 p4 p' : Pt} {r r1 r2 : Rv} {rs : List Rv} {d d0 d1 d2 : D} {ds ds2 : List D} {f g : List D → Option D} {i : Nat}
theorem ev_cst : Ev (.cst d) p (.pers d) p := fun e m => ⟨e, by unfold ev; rfl, m⟩
theorem ev_v (h : p[i]? = some (.ex (.im d))) : Ev (.var i) p (.pers d) p := fun e m => by
  obtain ⟨b, h1, h2⟩ := m.get h
  cases h2
  exact ⟨e, by unfold ev; rw [h1], m⟩
theorem ev_ow (h : p[i]? = some (.ex (.ow d))) : Ev (.var i) p (.bor i) p := fun e m => by
  obtain ⟨b, h1, h2⟩ := m.get h
  cases h2
  exact ⟨e, by unfold ev; rw [h1], m⟩
theorem ev_io (h : p[i]? = some (.ex (.io d))) : Ev (.var i) p (.bor i) p := fun e m => by
  obtain ⟨b, h1, h2⟩ := m.get h
  cases h2
  exact ⟨e, by unfold ev; rw [h1], m⟩
theorem evs_n : Evs [] p [] p := fun e m => ⟨e, by unfold evs; rfl, m⟩
theorem evs_c (h : Ev x p r p1) (t : Evs xs p1 rs p2) : Evs (x :: xs) p (r :: rs) p2 := fun e m => by
  obtain ⟨e1, h1, m1⟩ := h e m
  obtain ⟨e2, h2, m2⟩ := t e1 m1
  exact ⟨e2, by unfold evs; rw [h1]; show (match evs xs e1 with
      | some (rs, e2) => some (r :: rs, e2)
      | none => none) = _; rw [h2] <;> rfl, m2⟩
theorem ev_op (h : Evs xs p rs p1) (hg : gps p1 rs = some ds) (hf : f ds = some d) : Ev (.op f xs) p (.pers d) p1 := fun e m => by
  obtain ⟨e1, h1, m1⟩ := h e m
  exact ⟨e1, by unfold ev; simp only [h1, gps_ok m1 hg, hf], m1⟩
theorem ev_mk (h : Evs xs p rs p1) (hg : sps p1 rs = some (ds, p2)) (hf : f ds = some d) : Ev (.mk f xs) p (.pers d) p2 := fun e m => by
  obtain ⟨e1, h1, m1⟩ := h e m
  obtain ⟨e2, h2, m2⟩ := sps_ok m1 hg
  exact ⟨e2, by unfold ev; simp only [h1, h2, hf], m2⟩
theorem ev_call (h : Evs xs p rs p1) (hg : sps p1 rs = some (ds, p2)) (hf : f ds = some d) : Ev (.call f xs) p (.pers d) p2 := fun e m => by
  obtain ⟨e1, h1, m1⟩ := h e m
  obtain ⟨e2, h2, m2⟩ := sps_ok m1 hg
  exact ⟨e2, by unfold ev; simp only [h1, h2, hf], m2⟩
def ownP (p : Pt) (i : Nat) : Bool := match p[i]? with
  | some (.ex b) => b.isLs
  | _ => false
theorem ownP_ok {e : Env'} (m : Mt p e) (h : ownP p i = true) : ownAt e i = true := by
  unfold ownP at h
  split at h
  · rename_i b q
    obtain ⟨c, h1, h2⟩ := m.get q
    cases h2
    unfold ownAt
    rw [h1]
    exact h
  · cases h
theorem ev_callOi {φ : List D → Option (D × D)} (ho : ownP p i = true) (h : Evs xs p rs p1) (hg : sps p1 rs = some (ds, p2)) (hi : p2[i]? = some (.ex (.io d0))) (hf : φ (d0 :: ds) = some (d, d1)) : Ev (.callO φ i xs) p (.pers d) (p2.set i (.ex (.io d1))) := fun e m => by
  obtain ⟨e1, h1, m1⟩ := h e m
  obtain ⟨e2, h2, m2⟩ := sps_ok m1 hg
  obtain ⟨b, q1, q2⟩ := m2.get hi
  cases q2
  exact ⟨_, by unfold ev; simp only [ownP_ok m ho, if_true, h1, h2, q1, hf] <;> rfl, m2.set i rfl⟩
theorem ev_callOo {φ : List D → Option (D × D)} (ho : ownP p i = true) (h : Evs xs p rs p1) (hg : sps p1 rs = some (ds, p2)) (hi : p2[i]? = some (.ex (.ow d0))) (hf : φ (d0 :: ds) = some (d, d1)) : Ev (.callO φ i xs) p (.pers d) (p2.set i (.ex (.ow d1))) := fun e m => by
  obtain ⟨e1, h1, m1⟩ := h e m
  obtain ⟨e2, h2, m2⟩ := sps_ok m1 hg
  obtain ⟨b, q1, q2⟩ := m2.get hi
  cases q2
  exact ⟨_, by unfold ev; simp only [ownP_ok m ho, if_true, h1, h2, q1, hf] <;> rfl, m2.set i rfl⟩
theorem ev_andT (h : Ev x p r p1) (hg : gp p1 r = some d) (ht : truth d = some true) (hb : Ev y p1 r2 p2) : Ev (.and_ x y) p r2 p2 := fun e m => by
  obtain ⟨e1, h1, m1⟩ := h e m
  obtain ⟨e2, h2, m2⟩ := hb e1 m1
  exact ⟨e2, by unfold ev; simp only [h1, gp_ok m1 hg, ht]; exact h2, m2⟩
theorem ev_andF (h : Ev x p r p1) (hg : gp p1 r = some d) (ht : truth d = some false) : Ev (.and_ x y) p r p1 := fun e m => by
  obtain ⟨e1, h1, m1⟩ := h e m
  exact ⟨e1, by unfold ev; simp only [h1, gp_ok m1 hg, ht], m1⟩
theorem ev_orF (h : Ev x p r p1) (hg : gp p1 r = some d) (ht : truth d = some false) (hb : Ev y p1 r2 p2) : Ev (.or_ x y) p r2 p2 := fun e m => by
  obtain ⟨e1, h1, m1⟩ := h e m
  obtain ⟨e2, h2, m2⟩ := hb e1 m1
  exact ⟨e2, by unfold ev; simp only [h1, gp_ok m1 hg, ht]; exact h2, m2⟩
theorem ev_orT (h : Ev x p r p1) (hg : gp p1 r = some d) (ht : truth d = some true) : Ev (.or_ x y) p r p1 := fun e m => by
  obtain ⟨e1, h1, m1⟩ := h e m
  exact ⟨e1, by unfold ev; simp only [h1, gp_ok m1 hg, ht], m1⟩
theorem ev_andB {a b : Bool} (h : Ev x p (.pers (.bl a)) p1) (hb : a = true → Ev y p1 (.pers (.bl b)) p1) : Ev (.and_ x y) p (.pers (.bl (a && b))) p1 := by
  cases a with
  | true => exact ev_andT h rfl rfl (hb rfl)
  | false => exact ev_andF h rfl rfl
theorem ev_ite {c : Bool} (h : Ev x p r p1) (hg : gp p1 r = some d) (ht : truth d = some c) (ha : c = true → Ev y p1 r2 p2) (hb : c = false → Ev z p1 r2 p2) : Ev (.ite x y z) p r2 p2 := fun e m => by
  obtain ⟨e1, h1, m1⟩ := h e m
  cases c with
  | true =>
    obtain ⟨e2, h2, m2⟩ := ha rfl e1 m1
    exact ⟨e2, by unfold ev; simp only [h1, gp_ok m1 hg, ht]; exact h2, m2⟩
  | false =>
    obtain ⟨e2, h2, m2⟩ := hb rfl e1 m1
    exact ⟨e2, by unfold ev; simp only [h1, gp_ok m1 hg, ht]; exact h2, m2⟩
theorem ev_chain {a b : Bool} {ra rb rc : Rv} (hx : Ev x p ra p1) (hy : Ev y p1 rb p2) (hg : gps p2 [ra, rb] = some ds) (hf : f ds = some (.bl a)) (hz : a = true → Ev z p2 rc p2) (hg2 : gps p2 [rb, rc] = some ds2) (hf2 : a = true → g ds2 = some (.bl b)) : Ev (.chain f g x y z) p (.pers (.bl (a && b))) p2 := fun e m => by
  obtain ⟨e1, h1, m1⟩ := hx e m
  obtain ⟨e2, h2, m2⟩ := hy e1 m1
  cases a with
  | true =>
    obtain ⟨e3, h3, m3⟩ := hz rfl e2 m2
    exact ⟨e3, by unfold ev; simp only [h1, h2, gps_ok m2 hg, hf, h3, gps_ok m3 hg2, hf2 rfl] <;> rfl, m3⟩
  | false => exact ⟨e2, by unfold ev; simp only [h1, h2, gps_ok m2 hg, hf] <;> rfl, m2⟩
theorem evt_n : Evt [] p true p := fun e m => ⟨e, by unfold evt; rfl, m⟩
theorem evt_c {b : Bool} (h : Ev x p r p1) (hg : gp p1 r = some d) (ht : truth d = some b) : Evt [x] p b p1 := fun e m => by
  obtain ⟨e1, h1, m1⟩ := h e m
  exact ⟨e1, by unfold evt; simp only [h1, gp_ok m1 hg, ht], m1⟩
def It (g : List D → Option (List D)) (xs : List Ex) (p : Pt) (items : List D) (p' : Pt) : Prop := ∀ e, Mt p e → ∃ rs e1 ds e2, evs xs e = some (rs, e1) ∧ settles e1 rs = some (ds, e2) ∧ g ds = some items ∧ Mt p' e2
theorem it_of {g : List D → Option (List D)} {items : List D} (h : Evs xs p rs p1) (hs : sps p1 rs = some (ds, p2)) (hg : g ds = some items) : It g xs p items p2 := fun e m => by
  obtain ⟨e1, h1, m1⟩ := h e m
  obtain ⟨e2, h2, m2⟩ := sps_ok m1 hs
  exact ⟨rs, e1, ds, e2, h1, h2, hg, m2⟩
def wipeP (p : Pt) : List Nat → Pt
  | [] => p
  | v :: vs => (wipeP p vs).set v (.ex .un)
def backP (p0 p : Pt) : List Nat → Pt
  | [] => p
  | v :: vs => (match p0[v]? with
    | some s => (backP p0 p vs).set v s
    | none => backP p0 p vs)
def softP (p : Pt) (vs : List Nat) : Bool := vs.all fun v => match p[v]? with
  | some s => s.noOw
  | none => false
theorem Mt.wipe {e : Env'} (m : Mt p e) : ∀ (vs : List Nat), Mt (wipeP p vs) (wipeE e vs)
  | [] => m
  | v :: vs => (Mt.wipe m vs).set v rfl
theorem Mt.len : ∀ {p : Pt} {e : Env'}, Mt p e → p.length = e.length
  | _, _, .nil => rfl
  | _, _, .cons _ t => congrArg Nat.succ t.len
theorem Mt.back {e0 e : Env'} {p0 p : Pt} (m0 : Mt p0 e0) (m : Mt p e) : ∀ (vs : List Nat), Mt (backP p0 p vs) (backE e0 e vs)
  | [] => m
  | v :: vs => by
    unfold backP backE
    cases q : p0[v]? with
    | none =>
      have : e0[v]? = none := by
        rw [List.getElem?_eq_none_iff] at q ⊢
        rw [← m0.len]; exact q
      rw [this]
      exact Mt.back m0 m vs
    | some s =>
      obtain ⟨b, h1, h2⟩ := m0.get q
      rw [h1]
      exact (Mt.back m0 m vs).set v h2
theorem Mt.softs {e : Env'} {vs : List Nat} (m : Mt p e) (h : softP p vs = true) : softE e vs = true := by
  unfold softP at h
  unfold softE
  rw [List.all_eq_true] at h ⊢
  intro v hv
  have := h v hv
  split at this
  · rename_i s q
    obtain ⟨b, h1, h2⟩ := m.get q
    rw [h1]
    have hz := Sl.noOw_of h2 this
    unfold B.hard at hz
    simpa using hz
  · cases this
def cmpL {β τ σ : Type} (t : β → σ → Option (List τ × σ)) : List β → σ → Option (List τ × σ)
  | [], s => some ([], s)
  | b :: l, s => (t b s).bind fun q => (cmpL t l q.2).bind fun q2 => some (q.1 ++ q2.1, q2.2)
theorem lcLoop_T {β τ σ : Type} {I : β → D} {O : τ → D} {P : σ → Pt} {t : β → σ → Option (List τ × σ)} {f : D → Env' → Option (List D × Env')} (turn : ∀ b s ys s', t b s = some (ys, s') → ∀ e, Mt (P s) e → ∃ e', f (I b) e = some (ys.map O, e') ∧ Mt (P s') e') : ∀ (l : List β) (s : σ) (ys : List τ) (s' : σ), cmpL t l s = some (ys, s') → ∀ e, Mt (P s) e → ∃ e', lcLoop f (l.map I) e = some (ys.map O, e') ∧ Mt (P s') e'
  | [], s, ys, s', h, e, m => by cases h; exact ⟨e, rfl, m⟩
  | b :: l, s, ys, s', h, e, m => by
    unfold cmpL at h
    obtain ⟨⟨y1, s1⟩, h1, h⟩ := Option.bind_eq_some_iff.mp h
    obtain ⟨⟨y2, s2⟩, h2, h⟩ := Option.bind_eq_some_iff.mp h
    cases h
    obtain ⟨e1, k1, m1⟩ := turn b s y1 s1 h1 e m
    obtain ⟨e2, k2, m2⟩ := lcLoop_T turn l s1 y2 _ h2 e1 m1
    refine ⟨e2, ?_, m2⟩
    rw [List.map_cons, lcLoop, k1]
    show (match lcLoop f (l.map I) e1 with
        | some (zs, e2) => some (y1.map O ++ zs, e2)
        | none => none) = _
    rw [k2, List.map_append] <;> rfl
def Turn (tg : Tg) (vs : List Nat) (cs : List Ex) (elt : Ex) (p : Pt) (d : D) (ys : List D) (p' : Pt) : Prop := ∀ e, Mt p e → ∃ e', lcTurn tg vs (fun e => evt cs e) (fun e => ev elt e) d e = some (ys, e') ∧ Mt p' e'
theorem turn_keep {tg : Tg} {vs : List Nat} {cs : List Ex} (hb : tg.bp d p = some p1) (hc : Evt cs p1 true p2) (he : Ev x p2 r p3) (hs : sp p3 r = some (d1, p4)) : Turn tg vs cs x p d [d1] (wipeP p4 vs) := fun e m => by
  obtain ⟨e1, h1, m1⟩ := Tg.bp_ok tg m hb
  obtain ⟨e2, h2, m2⟩ := hc e1 m1
  obtain ⟨e3, h3, m3⟩ := he e2 m2
  obtain ⟨e4, h4, m4⟩ := sp_ok m3 hs
  exact ⟨_, by unfold lcTurn; simp only [h1, h2, h3, h4], m4.wipe vs⟩
theorem turn_drop {tg : Tg} {vs : List Nat} {cs : List Ex} (hb : tg.bp d p = some p1) (hc : Evt cs p1 false p2) : Turn tg vs cs x p d [] (wipeP p2 vs) := fun e m => by
  obtain ⟨e1, h1, m1⟩ := Tg.bp_ok tg m hb
  obtain ⟨e2, h2, m2⟩ := hc e1 m1
  exact ⟨_, by unfold lcTurn; simp only [h1, h2], m2.wipe vs⟩
theorem ev_lc {β τ σ : Type} {I : β → D} {O : τ → D} (P : σ → Pt) {t : β → σ → Option (List τ × σ)} {g : List D → Option (List D)} {vs : List Nat} {tg : Tg} {cs : List Ex} {l : List β} {s s' : σ} {ys : List τ} (hi : It g xs p (l.map I) p1) (hs : softP p1 vs = true) (hw : wipeP p1 vs = P s)
    (turn : ∀ b s ys s', t b s = some (ys, s') → Turn tg vs cs x (P s) (I b) (ys.map O) (P s')) (h : cmpL t l s = some (ys, s')) (hl : ys.length ≤ 16000000) : Ev (.lc g xs vs tg cs x) p (.pers (.lst (ys.map O))) (backP p1 (P s') vs) := fun e m => by
  obtain ⟨rs, e1, ds, e2, h1, h2, h3, m2⟩ := hi e m
  have mw := m2.wipe vs
  rw [hw] at mw
  obtain ⟨e3, k, m3⟩ := lcLoop_T (f := lcTurn tg vs (fun e => evt cs e) (fun e => ev x e)) turn l s ys s' h (wipeE e2 vs) mw
  exact ⟨_, by unfold ev; simp only [h1, h2, h3, m2.softs hs, if_true, k]; rw [if_pos (by rw [List.length_map]; exact hl)], m2.back m3 vs⟩
def Turn2 (tg : Tg) (vs vs1 : List Nat) (tg2 : Tg) (cs1 : List Ex) (g2 : List D → Option (List D)) (as2 : List Ex) (cs : List Ex) (elt : Ex) (p : Pt) (d : D) (ys : List D) (p' : Pt) : Prop := ∀ e, Mt p e → ∃ e', lc2Turn tg vs vs1 tg2 (fun e => evt cs1 e) (fun e => match evs as2 e with
            | some (rs, e5) => (match settles e5 rs with
              | some (ds, e6) => (match g2 ds with
                | some l => some (l, e6)
                | none => none)
              | none => none)
            | none => none) (fun e => evt cs e) (fun e => ev elt e) d e = some (ys, e') ∧ Mt p' e'
theorem turn2_keep {β τ σ : Type} {I : β → D} {O : τ → D} (P : σ → Pt) {t : β → σ → Option (List τ × σ)} {tg tg2 : Tg} {vs vs1 : List Nat} {cs1 cs : List Ex} {g2 : List D → Option (List D)} {l : List β} {s s' : σ} {ys : List τ} (hb : tg.bp d p = some p1) (hc : Evt cs1 p1 true p2) (hi : It g2 xs p2 (l.map I) p3) (hs : softP p3 vs1 = true) (hw : wipeP p3 vs1 = P s)
    (turn : ∀ b s ys s', t b s = some (ys, s') → Turn tg2 vs1 cs x (P s) (I b) (ys.map O) (P s')) (h : cmpL t l s = some (ys, s')) : Turn2 tg vs vs1 tg2 cs1 g2 xs cs x p d (ys.map O) (wipeP (P s') vs) := fun e m => by
  obtain ⟨e1, h1, m1⟩ := Tg.bp_ok tg m hb
  obtain ⟨e2, h2, m2⟩ := hc e1 m1
  obtain ⟨rs, e3, ds, e4, k1, k2, k3, m4⟩ := hi e2 m2
  have mw := m4.wipe vs1
  rw [hw] at mw
  obtain ⟨e5, k, m5⟩ := lcLoop_T (f := lcTurn tg2 vs1 (fun e => evt cs e) (fun e => ev x e)) turn l s ys s' h (wipeE e4 vs1) mw
  exact ⟨_, by unfold lc2Turn; simp only [h1, h2, k1, k2, k3, m4.softs hs, if_true, k], m5.wipe vs⟩
theorem ev_lc2 {β τ σ : Type} {I : β → D} {O : τ → D} (P : σ → Pt) {t : β → σ → Option (List τ × σ)} {g g2 : List D → Option (List D)} {vs vs1 : List Nat} {tg tg2 : Tg} {cs1 cs as2 : List Ex} {l : List β} {s s' : σ} {ys : List τ} (hi : It g xs p (l.map I) p1) (hs : softP p1 vs = true) (hv : vs1.all (fun i => vs.contains i) = true) (hw : wipeP p1 vs = P s)
    (turn : ∀ b s ys s', t b s = some (ys, s') → Turn2 tg vs vs1 tg2 cs1 g2 as2 cs x (P s) (I b) (ys.map O) (P s')) (h : cmpL t l s = some (ys, s')) (hl : ys.length ≤ 16000000) : Ev (.lc2 g xs vs tg cs1 g2 as2 vs1 tg2 cs x) p (.pers (.lst (ys.map O))) (backP p1 (P s') vs) := fun e m => by
  obtain ⟨rs, e1, ds, e2, h1, h2, h3, m2⟩ := hi e m
  have mw := m2.wipe vs
  rw [hw] at mw
  obtain ⟨e3, k, m3⟩ := lcLoop_T (f := lc2Turn tg vs vs1 tg2 (fun e => evt cs1 e) (fun e => match evs as2 e with
            | some (rs, e5) => (match settles e5 rs with
              | some (ds, e6) => (match g2 ds with
                | some l => some (l, e6)
                | none => none)
              | none => none)
            | none => none) (fun e => evt cs e) (fun e => ev x e)) turn l s ys s' h (wipeE e2 vs) mw
  refine ⟨backE e2 e3 vs, ?_, m2.back m3 vs⟩
  unfold ev
  simp only [h1, h2, h3, m2.softs hs, hv, Bool.and_self, if_true]
  erw [k]
  show (if (ys.map O).length ≤ 16000000 then _ else _) = _
  rw [if_pos (by rw [List.length_map]; exact hl)]
def Evd (fl : List Bool) (xs : List Ex) (p : Pt) (ds : List D) (p' : Pt) : Prop := ∀ e, Mt p e → ∃ e', evd fl xs e = some (ds, e') ∧ Mt p' e'
theorem evd_n {fl : List Bool} : Evd fl [] p [] p := fun e m => ⟨e, by unfold evd; rfl, m⟩
theorem evd_s {fl : List Bool} {l : List D} (h : Ev x p r p1) (hg : gp p1 r = some d) (hl : starD d = some l) (t : Evd fl xs p1 ds p2) : Evd (true :: fl) (x :: xs) p (l ++ ds) p2 := fun e m => by
  obtain ⟨e1, h1, m1⟩ := h e m
  obtain ⟨e2, h2, m2⟩ := t e1 m1
  exact ⟨e2, by unfold evd; simp only [h1, gp_ok m1 hg, hl, h2], m2⟩
theorem evd_c {fl : List Bool} (h : Ev x p r p1) (hs : sp p1 r = some (d, p2)) (t : Evd fl xs p2 ds p3) : Evd (false :: fl) (x :: xs) p (d :: ds) p3 := fun e m => by
  obtain ⟨e1, h1, m1⟩ := h e m
  obtain ⟨e2, h2, m2⟩ := sp_ok m1 hs
  obtain ⟨e3, h3, m3⟩ := t e2 m2
  exact ⟨e3, by unfold evd; simp only [h1, h2, h3], m3⟩
theorem ev_dspT {fl : List Bool} (h : Evd fl xs p ds p1) (hf : f ds = some d) : Ev (.dsp f fl xs) p (.pers d) p1 := fun e m => by
  obtain ⟨e1, h1, m1⟩ := h e m
  exact ⟨e1, by unfold ev; simp only [h1, hf], m1⟩
end
end Mi.T
namespace Mi.T
open PySem PySem.Spec PyProof.Rows L2 GxR
def Nx (s : S) (p p' : Pt) : Prop := ∀ e, Mt p e → ∃ e', ex s e = some (.nx e') ∧ Mt p' e'
inductive Ctl (ρ σ : Type) where
  | nxt (s : σ)
  | brk (s : σ)
  | ret (r : ρ)
def Bk (s : S) (p p' : Pt) : Prop := ∀ e, Mt p e → ∃ e', ex s e = some (.bk e') ∧ Mt p' e'
def outR (ko : Bool) (d : D) (e : Env') : Out := match ko with
  | true => .ro d e
  | false => .rt d e
def Rt (ko : Bool) (s : S) (p : Pt) (d : D) (q : Env' → Prop) : Prop := ∀ e, Mt p e → ∃ e', ex s e = some (outR ko d e') ∧ q e'
def Fin (ko : Bool) {ρ σ : Type} (s : S) (p : Pt) (c : Ctl ρ σ) (P : σ → Pt) (enc : ρ → D) (q : ρ → Env' → Prop) : Prop := match c with
  | .nxt st => Nx s p (P st)
  | .brk st => Bk s p (P st)
  | .ret r => Rt ko s p (enc r) (q r)
section
variable {ko : Bool} {ρ σ : Type} {a b s : S} {c : Ctl ρ σ} {P : σ → Pt} {enc : ρ → D} {q : ρ → Env' → Prop} {x y z : Ex} {xs : List Ex} {p p1 p2 p3 p' : Pt} {r r1 r2 : Rv} {rs : List Rv} {d d0 d1 d2 : D} {ds : List D} {i : Nat}
theorem fin_step {s1 s2 : S} (h : ∀ e, Mt p e → ∃ e1, Mt p1 e1 ∧ ex s1 e = ex s2 e1) (f : Fin ko s2 p1 c P enc q) : Fin ko s1 p c P enc q := by
  cases c with
  | nxt st =>
      intro e m
      obtain ⟨e1, m1, k⟩ := h e m
      obtain ⟨e', h1, h2⟩ := f e1 m1
      exact ⟨e', k.trans h1, h2⟩
  | brk st =>
      intro e m
      obtain ⟨e1, m1, k⟩ := h e m
      obtain ⟨e', h1, h2⟩ := f e1 m1
      exact ⟨e', k.trans h1, h2⟩
  | ret r =>
      intro e m
      obtain ⟨e1, m1, k⟩ := h e m
      obtain ⟨e', h1, h2⟩ := f e1 m1
      exact ⟨e', k.trans h1, h2⟩
theorem fin_seq (h : Nx a p p1) (f : Fin ko b p1 c P enc q) : Fin ko (.seq a b) p c P enc q := fin_step (fun e m => by
  obtain ⟨e1, h1, m1⟩ := h e m
  exact ⟨e1, m1, by rw [ex, h1]⟩) f
theorem fin_skip (f : Fin ko b p c P enc q) : Fin ko (.seq .skip b) p c P enc q := fin_seq (fun e m => ⟨e, by unfold ex; rfl, m⟩) f
theorem fin_ret (h : Ev x p r p1) (hs : sp p1 r = some (d, p2)) {w : ρ} (hd : d = enc w) (hq : ∀ e, Mt p2 e → q w e) : Fin false (.ret x) p (.ret w) P enc q := fun e m => by
  obtain ⟨e1, h1, m1⟩ := h e m
  obtain ⟨e2, h2, m2⟩ := sp_ok m1 hs
  refine ⟨e2, ?_, hq e2 m2⟩
  subst hd
  unfold ex
  simp only [h1, h2]
  rfl
theorem fin_seqR {w : ρ} {σ' : Type} {P' : σ' → Pt} (f : Fin ko a p (.ret w : Ctl ρ σ') P' enc q) : Fin ko (.seq a b) p (.ret w : Ctl ρ σ) P enc q := fun e m => by
  obtain ⟨e', h1, h2⟩ := f e m
  exact ⟨e', by unfold ex; rw [h1]; cases ko <;> rfl, h2⟩
theorem fin_nx (mk : List Nat) {st : σ} (h : Nx s p p1) (hm : maskOk mk p1 = true) (he : maskP mk p1 = P st) : Fin ko s p (.nxt st) P enc q := fun e m => by
  obtain ⟨e', h1, h2⟩ := h e m
  exact ⟨e', h1, he ▸ h2.mask mk hm⟩
theorem nx_skip : Nx .skip p p := fun e m => ⟨e, by unfold ex; rfl, m⟩
theorem fin_ifT (h : Ev x p r p1) (hg : gp p1 r = some d) (ht : truth d = some true) (f : Fin ko a p1 c P enc q) : Fin ko (.iff x a b) p c P enc q := fin_step (fun e m => by
  obtain ⟨e1, h1, m1⟩ := h e m
  exact ⟨e1, m1, by rw [ex]; simp only [h1, gp_ok m1 hg, ht]⟩) f
theorem fin_ifF (h : Ev x p r p1) (hg : gp p1 r = some d) (ht : truth d = some false) (f : Fin ko b p1 c P enc q) : Fin ko (.iff x a b) p c P enc q := fin_step (fun e m => by
  obtain ⟨e1, h1, m1⟩ := h e m
  exact ⟨e1, m1, by rw [ex]; simp only [h1, gp_ok m1 hg, ht]⟩) f
theorem fin_sifT (h : Ev x p r p1) (hg : gp p1 r = some d) (ht : truth d = some true) (f : Fin ko (.seq a s) p1 c P enc q) : Fin ko (.seq (.iff x a b) s) p c P enc q := fin_step (fun e m => by
  obtain ⟨e1, h1, m1⟩ := h e m
  refine ⟨e1, m1, ?_⟩
  simp only [ex, h1, gp_ok m1 hg, ht]) f
theorem fin_sifF (h : Ev x p r p1) (hg : gp p1 r = some d) (ht : truth d = some false) (f : Fin ko (.seq b s) p1 c P enc q) : Fin ko (.seq (.iff x a b) s) p c P enc q := fin_step (fun e m => by
  obtain ⟨e1, h1, m1⟩ := h e m
  refine ⟨e1, m1, ?_⟩
  simp only [ex, h1, gp_ok m1 hg, ht]) f
theorem nx_set {tg : Tg} (h : Ev x p r p1) (hs : sp p1 r = some (d, p2)) (hb : tg.bp d p2 = some p3) : Nx (.set tg x) p p3 := fun e m => by
  obtain ⟨e1, h1, m1⟩ := h e m
  obtain ⟨e2, h2, m2⟩ := sp_ok m1 hs
  obtain ⟨e3, h3, m3⟩ := Tg.bp_ok tg m2 hb
  exact ⟨e3, by unfold ex; simp only [h1, h2, h3], m3⟩
def noIoP (p : Pt) (i : Nat) : Bool := match p[i]? with
  | some s => s.noIo
  | none => false
theorem noIo_get {e : Env'} (m : Mt p e) (h : noIoP p i = true) : ∃ b, e[i]? = some b ∧ b.noIo = true := by
  unfold noIoP at h
  split at h
  · rename_i s q
    obtain ⟨b, h1, h2⟩ := m.get q
    exact ⟨b, h1, Sl.noIo_of h2 h⟩
  · cases h
theorem nx_setO (h : Ev x p (.pers d) p1) (hi : noIoP p1 i = true) : Nx (.setO i x) p (p1.set i (.ex (.ow d))) := fun e m => by
  obtain ⟨e1, h1, m1⟩ := h e m
  obtain ⟨b, k1, k2⟩ := noIo_get m1 hi
  refine ⟨e1.set i (.ow d), ?_, m1.set i rfl⟩
  unfold ex
  simp only [h1, k1]
  cases b <;> first | rfl | cases k2
theorem nx_par {j : Nat} {a b : Ex} {ra rb : Rv} {da db : D} (h : Evs [a, b] p [ra, rb] p1) (hs : sps p1 [ra, rb] = some ([da, db], p2)) (hb : Tg.bps [.nm i, .nm j] [da, db] p2 = some p3) : Nx (.par i j a b) p p3 := fun e m => by
  obtain ⟨e1, h1, m1⟩ := h e m
  obtain ⟨e2, h2, m2⟩ := sps_ok m1 hs
  obtain ⟨e3, h3, m3⟩ := Tg.bps_ok _ m2 hb
  exact ⟨e3, by unfold ex; simp only [h1, h2, h3], m3⟩
def Evo (fl : List Bool) (xs : List Ex) (p : Pt) (ds : List D) (p' : Pt) : Prop := ∀ e, Mt p e → ∃ e', evo fl xs e = some (ds, e') ∧ Mt p' e'
theorem evo_n {fl : List Bool} : Evo fl [] p [] p := fun e m => ⟨e, by unfold evo; rfl, m⟩
theorem evo_o {fl : List Bool} (h : Ev x p (.pers d) p1) (t : Evo fl xs p1 ds p2) : Evo (true :: fl) (x :: xs) p (d :: ds) p2 := fun e m => by
  obtain ⟨e1, h1, m1⟩ := h e m
  obtain ⟨e2, h2, m2⟩ := t e1 m1
  exact ⟨e2, by unfold evo; simp only [h1, h2], m2⟩
theorem evo_c {fl : List Bool} (h : Ev x p r p1) (hs : sp p1 r = some (d, p2)) (t : Evo fl xs p2 ds p3) : Evo (false :: fl) (x :: xs) p (d :: ds) p3 := fun e m => by
  obtain ⟨e1, h1, m1⟩ := h e m
  obtain ⟨e2, h2, m2⟩ := sp_ok m1 hs
  obtain ⟨e3, h3, m3⟩ := t e2 m2
  exact ⟨e3, by unfold evo; simp only [h1, h2, h3], m3⟩
def storesP : List Nat → List Bool → List D → Pt → Option Pt
  | [], [], [], p => some p
  | i :: is, b :: fl, d :: ds, p => (match storesP is fl ds p with
    | some p1 => if noIoP p1 i then some (p1.set i (.ex (if b then .ow d else .im d))) else none
    | none => none)
  | _, _, _, _ => none
theorem storesP_ok : ∀ {is : List Nat} {fl : List Bool} {ds : List D} {p p' : Pt} {e : Env'}, Mt p e → storesP is fl ds p = some p' → ∃ e', storesO is fl ds e = some e' ∧ Mt p' e'
  | [], [], [], p, p', e, m, h => by cases h; exact ⟨e, rfl, m⟩
  | i :: is, b :: fl, d :: ds, p, p', e, m, h => by
    unfold storesP at h
    split at h
    · rename_i p1 q
      split at h
      · rename_i hz
        cases h
        obtain ⟨e1, h1, m1⟩ := storesP_ok m q
        obtain ⟨c, k1, k2⟩ := noIo_get m1 hz
        refine ⟨e1.set i (if b then .ow d else .im d), ?_, m1.set i rfl⟩
        unfold storesO
        simp only [h1, k1]
        cases c <;> first | rfl | cases k2
      · cases h
    · cases h
  | [], [], _ :: _, _, _, _, _, h => by cases h
  | [], _ :: _, _, _, _, _, _, h => by cases h
  | _ :: _, [], _, _, _, _, _, h => by cases h
  | _ :: _, _ :: _, [], _, _, _, _, h => by cases h
theorem nx_parO {is : List Nat} {fl : List Bool} (h : Evo fl xs p ds p1) (hs : storesP is fl ds p1 = some p2) : Nx (.parO is fl xs) p p2 := fun e m => by
  obtain ⟨e1, h1, m1⟩ := h e m
  obtain ⟨e2, h2, m2⟩ := storesP_ok m1 hs
  exact ⟨e2, by unfold ex; simp only [h1, h2], m2⟩
theorem nx_exp (h : Ev x p r p1) : Nx (.exp x) p p1 := fun e m => by
  obtain ⟨e1, h1, m1⟩ := h e m
  exact ⟨e1, by unfold ex; simp only [h1], m1⟩
def lstP (p : Pt) (i : Nat) : Bool := match p[i]? with
  | some (.ex (.ow (.lst _))) => true
  | some (.ex (.io (.lst _))) => true
  | _ => false
theorem lstP_ok {e : Env'} (m : Mt p e) (h : lstP p i = true) : lstAt e i = true := by
  unfold lstP at h
  split at h <;> first | cases h | skip
  all_goals
    rename_i q
    obtain ⟨c, h1, h2⟩ := m.get q
    cases h2
    unfold lstAt
    rw [h1]
theorem nx_app {l : List D} (ho : lstP p i = true) (h : Ev x p r p1) (hs : sp p1 r = some (d, p2)) (hi : p2[i]? = some (.ex (.ow (.lst l)))) (hl : l.length < 16000000) : Nx (.app i x) p (p2.set i (.ex (.ow (.lst (l ++ [d]))))) := fun e m => by
  obtain ⟨e1, h1, m1⟩ := h e m
  obtain ⟨e2, h2, m2⟩ := sp_ok m1 hs
  obtain ⟨c, k1, k2⟩ := m2.get hi
  cases k2
  exact ⟨_, by unfold ex; simp only [lstP_ok m ho, if_true, h1, h2, k1, hl], m2.set i rfl⟩
theorem nx_sub {f : D → D → D → Option D} {k : Ex} {rx rk : Rv} {o o' dk : D} (ho : ownP p i = true) (h : Evs [x, k] p [rx, rk] p1) (hs : sps p1 [rx, rk] = some ([d, dk], p2)) (hi : p2[i]? = some (.ex (.ow o))) (hf : f o dk d = some o') : Nx (.sub f i k x) p (p2.set i (.ex (.ow o'))) := fun e m => by
  obtain ⟨e1, h1, m1⟩ := h e m
  obtain ⟨e2, h2, m2⟩ := sps_ok m1 hs
  obtain ⟨c, k1, k2⟩ := m2.get hi
  cases k2
  exact ⟨_, by unfold ex; simp only [ownP_ok m ho, if_true, h1, h2, k1, hf], m2.set i rfl⟩
theorem nx_subI {f : D → D → D → Option D} {k : Ex} {rx rk : Rv} {o o' dk : D} (ho : ownP p i = true) (h : Evs [x, k] p [rx, rk] p1) (hs : sps p1 [rx, rk] = some ([d, dk], p2)) (hi : p2[i]? = some (.ex (.io o))) (hf : f o dk d = some o') : Nx (.sub f i k x) p (p2.set i (.ex (.io o'))) := fun e m => by
  obtain ⟨e1, h1, m1⟩ := h e m
  obtain ⟨e2, h2, m2⟩ := sps_ok m1 hs
  obtain ⟨c, k1, k2⟩ := m2.get hi
  cases k2
  exact ⟨_, by unfold ex; simp only [ownP_ok m ho, if_true, h1, h2, k1, hf], m2.set i rfl⟩
theorem nx_mov {φ : List D → Option D} (h : Evs xs p rs p1) (hs : sps p1 rs = some (ds, p2)) (hi : p2[i]? = some (.ex (.ow d0))) (hf : φ (ds ++ [d0]) = some d) : Nx (.mov i φ xs) p (p2.set i (.ex (.ow d))) := fun e m => by
  obtain ⟨e1, h1, m1⟩ := h e m
  obtain ⟨e2, h2, m2⟩ := sps_ok m1 hs
  obtain ⟨c, k1, k2⟩ := m2.get hi
  cases k2
  exact ⟨_, by unfold ex; simp only [h1, h2, k1, hf], m2.set i rfl⟩
def fld {β σ : Type} (t : β → σ → Option σ) : List β → σ → Option σ
  | [], s => some s
  | b :: l, s => (t b s).bind fun s1 => fld t l s1
def fldR {β ρ σ : Type} (t : β → σ → Option (Ctl ρ σ)) : List β → σ → Option (Ctl ρ σ)
  | [], s => some (.nxt s)
  | b :: l, s => (t b s).bind fun c => match c with
    | .nxt s1 => fldR t l s1
    | .brk s1 => some (.nxt s1)
    | .ret r => some (.ret r)
theorem st_for {β : Type} {I : β → D} (P : σ → Pt) {t : β → σ → Option σ} {g : List D → Option (List D)} {tg : Tg} {l : List β} {st st' : σ} (hi : It g xs p (l.map I) p1) (mk : List Nat) (hm : maskOk mk p1 = true) (hp : maskP mk p1 = P st)
    (body : ∀ b st st', t b st = some st' → ∃ p2, tg.bp (I b) (P st) = some p2 ∧ Fin false s p2 (.nxt st' : Ctl Unit σ) P (fun _ => .non) (fun _ _ => True)) (h : fld t l st = some st') : Nx (.forr g xs tg s) p (P st') := fun e m => by
  obtain ⟨rs, e1, ds, e2, h1, h2, h3, m2⟩ := hi e m
  have mp : Mt (P st) e2 := hp ▸ m2.mask mk hm
  have key : ∀ (l : List β) (st st' : σ) (e : Env'), fld t l st = some st' → Mt (P st) e → ∃ e', forLoop (fun d e => match tg.bind d e with
          | some e3 => ex s e3
          | none => none) (l.map I) e = some (.nx e') ∧ Mt (P st') e' := by
    intro l
    induction l with
    | nil => intro st st' e h m; cases h; exact ⟨e, rfl, m⟩
    | cons b l ih =>
      intro st st' e h m
      unfold fld at h
      obtain ⟨s1, k1, k2⟩ := Option.bind_eq_some_iff.mp h
      obtain ⟨p2, b1, b2⟩ := body b st s1 k1
      obtain ⟨e3, b3, m3⟩ := Tg.bp_ok tg m b1
      obtain ⟨e4, b4, m4⟩ := b2 e3 m3
      obtain ⟨e5, b5, m5⟩ := ih s1 st' e4 k2 m4
      exact ⟨e5, by rw [List.map_cons, forLoop]; simp only [b3, b4]; exact b5, m5⟩
  obtain ⟨e', k, m'⟩ := key l st st' e2 h mp
  exact ⟨e', by unfold ex; simp only [h1, h2, h3]; exact k, m'⟩
theorem st_forR {β : Type} {I : β → D} (P : σ → Pt) {t : β → σ → Option (Ctl ρ σ)} {g : List D → Option (List D)} {tg : Tg} {l : List β} {st : σ} {c : Ctl ρ σ} (hi : It g xs p (l.map I) p1) (mk : List Nat) (hm : maskOk mk p1 = true) (hp : maskP mk p1 = P st)
    (body : ∀ b st c, t b st = some c → ∃ p2, tg.bp (I b) (P st) = some p2 ∧ Fin ko s p2 c P enc q) (h : fldR t l st = some c) : Fin ko (.forr g xs tg s) p c P enc q := by
  have key : ∀ (l : List β) (st : σ) (c : Ctl ρ σ) (e : Env'), fldR t l st = some c → Mt (P st) e → ∃ e' o, forLoop (fun d e => match tg.bind d e with
          | some e3 => ex s e3
          | none => none) (l.map I) e = some o ∧ (match c with
            | .nxt s => o = .nx e' ∧ Mt (P s) e'
            | .brk s => False
            | .ret r => o = outR ko (enc r) e' ∧ q r e') := by
    intro l
    induction l with
    | nil => intro st c e h m; cases h; exact ⟨e, _, rfl, rfl, m⟩
    | cons b l ih =>
      intro st c e h m
      unfold fldR at h
      obtain ⟨c1, k1, k2⟩ := Option.bind_eq_some_iff.mp h
      obtain ⟨p2, b1, b2⟩ := body b st c1 k1
      obtain ⟨e3, b3, m3⟩ := Tg.bp_ok tg m b1
      cases c1 with
      | nxt s1 =>
        obtain ⟨e4, b4, m4⟩ := b2 e3 m3
        obtain ⟨e5, o, b5, m5⟩ := ih s1 c e4 k2 m4
        exact ⟨e5, o, by rw [List.map_cons, forLoop]; simp only [b3, b4]; exact b5, m5⟩
      | brk s1 =>
        obtain ⟨e4, b4, m4⟩ := b2 e3 m3
        cases k2
        exact ⟨e4, .nx e4, by rw [List.map_cons, forLoop]; simp only [b3, b4], rfl, m4⟩
      | ret r =>
        obtain ⟨e4, b4, m4⟩ := b2 e3 m3
        cases k2
        exact ⟨e4, outR ko (enc r) e4, by rw [List.map_cons, forLoop]; simp only [b3, b4]; cases ko <;> rfl, rfl, m4⟩
  cases c with
  | nxt st' =>
      intro e m
      obtain ⟨rs, e1, ds, e2, h1, h2, h3, m2⟩ := hi e m
      obtain ⟨e', o, k, m'⟩ := key l st _ e2 h (hp ▸ m2.mask mk hm)
      obtain ⟨rfl, m'⟩ := m'
      exact ⟨e', by unfold ex; simp only [h1, h2, h3]; exact k, m'⟩
  | brk st' =>
      intro e m
      obtain ⟨rs, e1, ds, e2, h1, h2, h3, m2⟩ := hi e m
      obtain ⟨e', o, k, m'⟩ := key l st _ e2 h (hp ▸ m2.mask mk hm)
      exact m'.elim
  | ret r =>
      intro e m
      obtain ⟨rs, e1, ds, e2, h1, h2, h3, m2⟩ := hi e m
      obtain ⟨e', o, k, m'⟩ := key l st _ e2 h (hp ▸ m2.mask mk hm)
      obtain ⟨rfl, m'⟩ := m'
      exact ⟨e', by unfold ex; simp only [h1, h2, h3]; exact k, m'⟩
theorem whl0 {c : Env' → Option (Bool × Env')} {f : Env' → Option Out} {n : Nat} {e e1 : Env'} (h : c e = some (false, e1)) : whileLoop c f (n + 1) e = some (.nx e1) := by
  rw [whileLoop, h]
theorem whl1 {c : Env' → Option (Bool × Env')} {f : Env' → Option Out} {n : Nat} {e e1 e2 : Env'} (h : c e = some (true, e1)) (h2 : f e1 = some (.nx e2)) : whileLoop c f (n + 1) e = whileLoop c f n e2 := by
  rw [whileLoop, h]
  simp only [h2]
theorem whl2 {c : Env' → Option (Bool × Env')} {f : Env' → Option Out} {n : Nat} {e e1 e2 : Env'} (h : c e = some (true, e1)) (h2 : f e1 = some (.bk e2)) : whileLoop c f (n + 1) e = some (.nx e2) := by
  rw [whileLoop, h]
  simp only [h2]
theorem whl3 {ko : Bool} {c : Env' → Option (Bool × Env')} {f : Env' → Option Out} {n : Nat} {e e1 e2 : Env'} {v : D} (h : c e = some (true, e1)) (h2 : f e1 = some (outR ko v e2)) : whileLoop c f (n + 1) e = some (outR ko v e2) := by
  rw [whileLoop, h]
  simp only [h2]
  cases ko <;> rfl
def whl {ρ σ : Type} (tc : σ → Option Bool) (t : σ → Option (Ctl ρ σ)) : Nat → σ → Option (Ctl ρ σ)
  | 0, _ => none
  | n + 1, s => (tc s).bind fun k => match k with
    | false => some (.nxt s)
    | true => (t s).bind fun c => match c with
      | .nxt s1 => whl tc t n s1
      | .brk s1 => some (.nxt s1)
      | .ret r => some (.ret r)
theorem st_while (P : σ → Pt) {tc : σ → Option Bool} {t : σ → Option (Ctl ρ σ)} {n : Nat} {st : σ} {c : Ctl ρ σ} (mk : List Nat) (hm : maskOk mk p = true) (hp : maskP mk p = P st)
    (cond : ∀ st k, tc st = some k → Evt [x] (P st) k (P st)) (body : ∀ st c, tc st = some true → t st = some c → Fin ko s (P st) c P enc q) (h : whl tc t n st = some c) : Fin ko (.whil n x s) p c P enc q := by
  have key : ∀ (n : Nat) (st : σ) (c : Ctl ρ σ) (e : Env'), whl tc t n st = some c → Mt (P st) e → ∃ e' o, whileLoop (fun e => match ev x e with
      | some (r, e1) => (match r.get e1 with
        | some d => (match truth d with
          | some t => some (t, e1)
          | none => none)
        | none => none)
      | none => none) (fun e => ex s e) n e = some o ∧ (match c with
            | .nxt s => o = .nx e' ∧ Mt (P s) e'
            | .brk s => False
            | .ret r => o = outR ko (enc r) e' ∧ q r e') := by
    intro n
    induction n with
    | zero => intro st c e h m; cases h
    | succ n ih =>
      intro st c e h m
      unfold whl at h
      obtain ⟨k, k1, k2⟩ := Option.bind_eq_some_iff.mp h
      obtain ⟨e1, c1, m1⟩ := cond st k k1 e m
      rw [evt] at c1
      cases k with
      | false =>
        cases k2
        exact ⟨e1, .nx e1, whl0 c1, rfl, m1⟩
      | true =>
        obtain ⟨c2, k3, k4⟩ := Option.bind_eq_some_iff.mp k2
        have b2 := body st c2 k1 k3
        cases c2 with
        | nxt s1 =>
          obtain ⟨e4, b4, m4⟩ := b2 e1 m1
          obtain ⟨e5, o, b5, m5⟩ := ih s1 c e4 k4 m4
          exact ⟨e5, o, (whl1 c1 b4).trans b5, m5⟩
        | brk s1 =>
          obtain ⟨e4, b4, m4⟩ := b2 e1 m1
          cases k4
          exact ⟨e4, .nx e4, whl2 c1 b4, rfl, m4⟩
        | ret r =>
          obtain ⟨e4, b4, m4⟩ := b2 e1 m1
          cases k4
          exact ⟨e4, outR ko (enc r) e4, whl3 c1 b4, rfl, m4⟩
  cases c with
  | nxt st' =>
      intro e m
      obtain ⟨e', o, k, m'⟩ := key n st _ e h (hp ▸ m.mask mk hm)
      obtain ⟨rfl, m'⟩ := m'
      exact ⟨e', by unfold ex; exact k, m'⟩
  | brk st' =>
      intro e m
      obtain ⟨e', o, k, m'⟩ := key n st _ e h (hp ▸ m.mask mk hm)
      exact m'.elim
  | ret r =>
      intro e m
      obtain ⟨e', o, k, m'⟩ := key n st _ e h (hp ▸ m.mask mk hm)
      obtain ⟨rfl, m'⟩ := m'
      exact ⟨e', by unfold ex; exact k, m'⟩
end
section
variable {ρ σ : Type} {P : σ → Pt} {enc : ρ → D} {q : ρ → Env' → Prop} {x : Ex} {p p1 : Pt} {d : D} {i : Nat}
theorem fin_retO (h : Ev x p (.pers d) p1) {w : ρ} (hd : d = enc w) (hq : ∀ e, Mt p1 e → q w e) : Fin true (.retO x) p (.ret w) P enc q := fun e m => by
  obtain ⟨e1, h1, m1⟩ := h e m
  refine ⟨e1, ?_, hq e1 m1⟩
  subst hd
  unfold ex
  simp only [h1]
  rfl
theorem fin_retV (hi : p[i]? = some (.ex (.ow d))) {w : ρ} (hd : d = enc w) (hq : ∀ e, Mt p e → q w e) : Fin true (.retV i) p (.ret w) P enc q := fun e m => by
  obtain ⟨c, h1, h2⟩ := m.get hi
  cases h2
  refine ⟨e, ?_, hq e m⟩
  subst hd
  unfold ex
  simp only [h1]
  rfl
end
theorem mt_map : ∀ (ds : List D) {p : Pt} {e : Env'}, Mt p e → Mt (ds.map (fun d => Sl.ex (.im d)) ++ p) (ds.map B.im ++ e)
  | [], _, _, h => h
  | d :: ds, _, _, h => .cons rfl (mt_map ds h)
theorem mt_un : ∀ n : Nat, Mt (List.replicate n (.ex .un)) (List.replicate n .un)
  | 0 => .nil
  | n + 1 => .cons rfl (mt_un n)
def inI (N : Nat) (ds : List D) : Pt := ds.map (fun d => Sl.ex (.im d)) ++ List.replicate (N - ds.length) (.ex .un)
def inO (N : Nat) (d0 : D) (ds : List D) : Pt := .ex (.io d0) :: (ds.map (fun d => Sl.ex (.im d)) ++ List.replicate (N - (ds.length + 1)) (.ex .un))
theorem run_I {n N : Nat} {s : S} {ds : List D} {ρ : Type} {enc : ρ → D} {w : ρ} {p : Pt} (hp : inI N ds = p) (f : Fin false s p (.ret w : Ctl ρ Unit) (fun _ => []) enc (fun _ _ => True)) (hn : ds.length = n) : runI n N s ds = some (enc w) := by
  subst hp
  obtain ⟨e', h, _⟩ := f _ ((mt_map ds (mt_un _)))
  unfold runI initI
  rw [if_pos hn, h]
  rfl
theorem run_In {n N : Nat} {s : S} {ds : List D} {p p' : Pt} (hp : inI N ds = p) (f : Fin false s p (.nxt () : Ctl Unit Unit) (fun _ => p') (fun _ => .non) (fun _ _ => True)) (hn : ds.length = n) : runI n N s ds = some .non := by
  subst hp
  obtain ⟨e', h, _⟩ := f _ ((mt_map ds (mt_un _)))
  unfold runI initI
  rw [if_pos hn, h]
theorem run_O {n N : Nat} {s : S} {d0 : D} {ds : List D} {ρ : Type} {enc es : ρ → D} {w : ρ} {p : Pt} (hp : inO N d0 ds = p) (f : Fin false s p (.ret w : Ctl ρ Unit) (fun _ => []) enc (fun r e => outO e = some (es r))) (hn : ds.length + 1 = n) : runO n N s (d0 :: ds) = some (enc w, es w) := by
  subst hp
  obtain ⟨e', h, q⟩ := f _ (.cons rfl (mt_map ds (mt_un _)))
  unfold runO initO
  simp only
  rw [if_pos hn, h]
  show (outO e').map _ = _
  rw [q]
  rfl
def inM (N : Nat) (ds : List D) (d0 : D) : Pt := ds.map (fun d => Sl.ex (.im d)) ++ (.ex (.ow d0) :: List.replicate (N - (ds.length + 1)) (.ex .un))
theorem run_M {n N : Nat} {s : S} {ds0 ds : List D} {d0 : D} {ρ : Type} {enc : ρ → D} {w : ρ} {p : Pt} (hp : inM N ds d0 = p) (f : Fin true s p (.ret w : Ctl ρ Unit) (fun _ => []) enc (fun _ _ => True)) (hd : ds0 = ds ++ [d0]) (hn : ds.length + 1 = n) : runM n N s ds0 = some (enc w) := by
  subst hp hd
  obtain ⟨e', h, _⟩ := f _ ((mt_map ds (.cons rfl (mt_un _))))
  unfold runM
  rw [List.getLast?_concat, List.dropLast_concat]
  dsimp only
  rw [if_pos (by rw [List.length_append]; exact hn)]
  unfold initM
  rw [h]
  rfl
theorem out_O {d : D} {p : Pt} {e : Env'} (m : Mt (.ex (.io d) :: p) e) : outO e = some d := by
  cases m with
  | cons h t => cases h; rfl
theorem bnd {α β : Type} {t : Option α} {k : α → Option β} {b : β} {M : Prop} (h : t.bind k = some b) (f : ∀ a, t = some a → k a = some b → M) : M := by
  obtain ⟨a, h1, h2⟩ := Option.bind_eq_some_iff.mp h
  exact f a h1 h2
theorem ifT {α : Type} {c : Bool} {a b : Option α} {r : α} (h : (if c = true then a else b) = some r) (q : c = true) : a = some r := (if_pos q).symm.trans h
theorem ifF {α : Type} {c : Bool} {a b : Option α} {r : α} (h : (if c = true then a else b) = some r) (q : c = false) : b = some r := (if_neg (by rw [q]; exact fun z => nomatch z)).symm.trans h
theorem ifS {α : Type} {c : Bool} {a b : Option α} {r : α} {M : Prop} (h : (if c = true then a else b) = some r) (ht : c = true → a = some r → M) (hf : c = false → b = some r → M) : M := by
  cases q : c with
  | true => exact ht q (ifT h q)
  | false => exact hf q (ifF h q)
end Mi.T
namespace Mi.T
open PySem PySem.Spec PyProof.Rows L2 GxR
abbrev eInt : Int → D := .int
abbrev eStr : List Nat → D := .str
abbrev eBl : Bool → D := .bl
abbrev eNo : Unit → D := fun _ => .non
abbrev eScr : List Int → D := .scr
abbrev eTup {α : Type} (e : α → D) : List α → D := fun l => .tup (l.map e)
abbrev eLst {α : Type} (e : α → D) : List α → D := fun l => .lst (l.map e)
abbrev e1 {α : Type} (a : α → D) : α → D := fun q => .tup [a q]
abbrev e2 {α β : Type} (a : α → D) (b : β → D) : α × β → D := fun q => .tup [a q.1, b q.2]
abbrev e3 {α β γ : Type} (a : α → D) (b : β → D) (c : γ → D) : α × β × γ → D := fun q => .tup [a q.1, b q.2.1, c q.2.2]
abbrev e4 {α β γ δ : Type} (a : α → D) (b : β → D) (c : γ → D) (d : δ → D) : α × β × γ × δ → D := fun q => .tup [a q.1, b q.2.1, c q.2.2.1, d q.2.2.2]
abbrev h4 {α β γ δ : Type} (a : α → D) (b : β → D) (c : γ → D) (d : δ → D) : α × β × γ × δ → D := fun q => .lst [a q.1, b q.2.1, c q.2.2.1, d q.2.2.2]
def eOp {α : Type} (e : α → D) : Option α → D
  | none => .non
  | some x => e x
section
variable {α β γ δ σ τ ρ : Type} {e : α → D} {f g : β → D}
def EqE [BEq α] (e : α → D) : Prop := ∀ x y, (e x).eqv (e y) = (x == y)
theorem eqe_int : EqE eInt := fun x y => by show (D.int x).eqv (D.int y) = _; simp only [D.eqv]
theorem eqe_str : EqE eStr := fun x y => by show (D.str x).eqv (D.str y) = _; simp only [D.eqv]
theorem eqe_bl : EqE eBl := fun x y => by show (D.bl x).eqv (D.bl y) = _; simp only [D.eqv]
theorem eqe_2 [BEq α] [BEq β] {a : α → D} {b : β → D} (ha : EqE a) (hb : EqE b) : EqE (e2 a b) := fun x y => by
  show (D.tup _).eqv (D.tup _) = _
  simp only [D.eqv, D.eqvL, ha x.1 y.1, hb x.2 y.2, Bool.and_true]
  rfl
theorem eq_sc [BEq α] (h : EqE e) {x y : α} (hs : scl (e x) (e y) = true) : eqF [e x, e y] = some (.bl (x == y)) := by
  unfold eqF
  simp only
  rw [if_pos (.inl hs), h x y]
theorem ne_sc [BEq α] (h : EqE e) {x y : α} (hs : scl (e x) (e y) = true) : neF [e x, e y] = some (.bl (!(x == y))) := by
  unfold neF
  simp only
  rw [if_pos (.inl hs), h x y]
def tmem [BEq α] (e : α → D) (x : α) (l : List α) : Option Bool := if (e x).shp 16 && D.shpL 15 (l.map e) then some (l.any fun y => y == x) else none
theorem any_map [BEq α] (h : EqE e) (x : α) : ∀ l : List α, (l.map e).any (fun y => y.eqv (e x)) = l.any fun y => y == x
  | [] => rfl
  | y :: l => by rw [List.map_cons, List.any_cons, List.any_cons, any_map h x l, h y x]
theorem tmem_ok [BEq α] (h : EqE e) {x : α} {l : List α} {b : Bool} (n : Bool) (q : tmem e x l = some b) : memF n [e x, eLst e l] = some (.bl (n != b)) := by
  unfold tmem at q
  split at q
  · rename_i hz
    cases q
    obtain ⟨z1, z2⟩ := Bool.and_eq_true_iff.mp hz
    have z3 : (D.lst (l.map e)).shp 16 = true := by simp only [D.shp]; exact z2
    unfold memF
    split
    · rename_i q2; simp at q2
    · rename_i x' l' q2
      simp only [List.cons.injEq, D.lst.injEq, and_true] at q2
      obtain ⟨rfl, rfl⟩ := q2
      rw [if_pos ⟨z1, z3⟩, any_map h]
    · rename_i q2; simp at q2
    · rename_i h1 h2 h3
      exact absurd rfl (h2 _ _)
  · cases q
def lenOk (l : List α) : Option (List α) := if l.length ≤ 16000000 then some l else none
theorem lenOk_eq {l m : List α} (h : lenOk l = some m) : l = m ∧ m.length ≤ 16000000 := by
  unfold lenOk at h
  split at h
  · rename_i hz; cases h; exact ⟨rfl, hz⟩
  · cases h
def slen (s : List Nat) : Option Int := if s.length ≤ 16000000 then some (s.length : Int) else none
theorem slen_ok {s : List Nat} {n : Int} (h : slen s = some n) : lenF [.str s] = some (.int n) := by
  unfold slen at h
  split at h
  · rename_i hz; cases h; exact if_pos hz
  · cases h
theorem len_lst {l : List α} : lenF [eLst e l] = some (.int (l.length : Int)) := by
  show some (D.int ((l.map e).length : Int)) = _
  rw [List.length_map]
theorem len_tup {l : List α} : lenF [eTup e l] = some (.int (l.length : Int)) := by
  show some (D.int ((l.map e).length : Int)) = _
  rw [List.length_map]
theorem tr_lst {l : List α} : truth (eLst e l) = some (!l.isEmpty) := by
  show some (!(l.map e).isEmpty) = _
  cases l <;> rfl
theorem not_of {d : D} {b : Bool} (h : truth d = some b) : notF [d] = some (.bl (!b)) := by
  show (truth d).map _ = _
  rw [h]
  rfl
theorem isN_op {x : Option α} (h : ∀ x, isNF [e x, .non] = some (.bl false)) : isNF [eOp e x, .non] = some (.bl x.isNone) := by
  cases x with
  | none => rfl
  | some x => exact h x
theorem notN_op {x : Option α} (h : ∀ x, notNF [e x, .non] = some (.bl true)) : notNF [eOp e x, .non] = some (.bl x.isSome) := by
  cases x with
  | none => rfl
  | some x => exact h x
def imin (a b : Int) : Int := if b < a then b else a
def imul (a b : Int) : Option Int := if (-(2 ^ 64) < a ∧ a < 2 ^ 64) ∨ (-(2 ^ 64) < b ∧ b < 2 ^ 64) then some (a * b) else none
theorem imul_ok {a b c : Int} (h : imul a b = some c) : mulF [.int a, .int b] = some (.int c) := by
  unfold imul at h
  split at h
  · rename_i hz; cases h; exact if_pos hz
  · cases h
def ifmod (a b : Int) : Option Int := if b ≠ 0 then some (a.fmod b) else none
theorem ifmod_ok {a b c : Int} (h : ifmod a b = some c) : modF [.int a, .int b] = some (.int c) := by
  unfold ifmod at h
  split at h
  · rename_i hz; cases h; exact if_pos hz
  · cases h
theorem fmod_r {a b : Int} (h : b ≠ 0) : modF [.int a, .int b] = some (.int (a.fmod b)) := if_pos h
def igcd (a b : Int) : Int := ((Nat.gcd a.natAbs b.natAbs : Nat) : Int)
def scat (a b : List Nat) : Option (List Nat) := if a.length + b.length ≤ 16000000 then some (a ++ b) else none
theorem scat_ok {a b c : List Nat} (h : scat a b = some c) : addF [.str a, .str b] = some (.str c) := by
  unfold scat at h
  split at h
  · rename_i hz; cases h; exact if_pos hz
  · cases h
def lcat (a b : List α) : Option (List α) := if a.length + b.length ≤ 16000000 then some (a ++ b) else none
theorem lcat_ok {a b c : List α} (h : lcat a b = some c) : addF [eLst e a, eLst e b] = some (eLst e c) := by
  unfold lcat at h
  split at h
  · rename_i hz
    cases h
    show (if (a.map e).length + (b.map e).length ≤ 16000000 then some (D.lst (a.map e ++ b.map e)) else none) = _
    rw [List.length_map, List.length_map, if_pos hz, ← List.map_append]
  · cases h
def rep (s : List α) (n : Int) : Option (List α) := if n ≤ 16000000 ∧ -16000000 ≤ n ∧ s.length * n.toNat ≤ 16000000 then some (List.replicate n.toNat s).flatten else none
theorem rep_ok {s t : List Nat} {n : Int} (h : rep s n = some t) : mulF [.str s, .int n] = some (.str t) := by
  unfold rep at h
  split at h
  · rename_i hz; cases h; exact if_pos hz
  · cases h
theorem atI_map (l : List α) (i : Int) : atI (l.map e) i = (atI l i).map e := by
  unfold atI
  rw [List.length_map]
  cases ixN l.length i with
  | none => rfl
  | some j => simp
theorem ix_lst {l : List α} {i : Int} {x : α} (h : atI l i = some x) : ixF [eLst e l, .int i] = some (e x) := by
  show atI (l.map e) i = _
  rw [atI_map, h]
  rfl
theorem ix_scr {l : List Int} {i x : Int} (h : atI l i = some x) : ixF [.scr l, .int i] = some (.int x) := by
  show (atI l i).map D.int = _
  rw [h]
  rfl
def sat (s : List Nat) (i : Int) : Option (List Nat) := if s.length ≤ 16000000 then (atI s i).map fun c => [c] else none
theorem sat_ok {s t : List Nat} {i : Int} (h : sat s i = some t) : ixF [.str s, .int i] = some (.str t) := by
  unfold sat at h
  split at h
  · rename_i hz
    show (if s.length ≤ 16000000 then (atI s i).map fun c => D.str [c] else none) = _
    rw [if_pos hz]
    cases q : atI s i with
    | none => rw [q] at h; cases h
    | some c => rw [q] at h; cases h; rfl
  · cases h
def tset (l : List α) (i : Int) (v : α) : Option (List α) := (ixN l.length i).map fun j => l.set j v
theorem tset_ok {l m : List α} {i : Int} {v : α} (h : tset l i v = some m) : setL (eLst e l) (.int i) (e v) = some (eLst e m) := by
  unfold tset at h
  show (match ixN (l.map e).length i with
    | some j => some (D.lst ((l.map e).set j (e v)))
    | none => none) = _
  rw [List.length_map]
  cases q : ixN l.length i with
  | none => rw [q] at h; cases h
  | some j => rw [q] at h; cases h; simp [List.map_set]
theorem cut_map (l : List α) (lo hi : Option Int) : cutL (l.map e) lo hi = (cutL l lo hi).map e := by
  unfold cutL
  rw [List.length_map, List.map_take, List.map_drop]
def scut (s : List Nat) (lo hi : Option Int) : Option (List Nat) := if s.length ≤ 16000000 then some (cutL s lo hi) else none
theorem scut_ok {s t : List Nat} {lo hi : Option Int} (h : scut s lo hi = some t) : slF (.str s) lo hi = some (.str t) := by
  unfold scut at h
  split at h
  · rename_i hz; cases h; exact if_pos hz
  · cases h
theorem lcut_ok {l : List α} {lo hi : Option Int} : slF (eLst e l) lo hi = some (eLst e (cutL l lo hi)) := by
  show some (D.lst (cutL (l.map e) lo hi)) = _
  rw [cut_map]
def tcut (l : List α) (lo hi : Option Int) : Option (List α) := some (cutL l lo hi)
theorem tcut_ok {l m : List α} {lo hi : Option Int} (h : tcut l lo hi = some m) : slF (eTup e l) lo hi = some (eTup e m) := by
  cases h
  show some (D.tup (cutL (l.map e) lo hi)) = _
  rw [cut_map]
theorem strsOf_map' : ∀ l : List (List Nat), strsOf (l.map eStr) = some l
  | [] => rfl
  | s :: l => by
    show (strsOf (l.map eStr)).map _ = _
    rw [strsOf_map' l]
    rfl
def sjoin (sep : List Nat) (l : List (List Nat)) : Option (List Nat) := if (l.map List.length).sum + l.length * sep.length ≤ 16000000 then some (joinL' sep l) else none
theorem sjoin_ok {sep t : List Nat} {l : List (List Nat)} (h : sjoin sep l = some t) : joinF [.str sep, eLst eStr l] = some (.str t) := by
  unfold sjoin at h
  split at h
  · rename_i hz
    cases h
    show (match strsOf (l.map eStr) with
    | some ss => if (ss.map List.length).sum + ss.length * sep.length ≤ 16000000 then some (D.str (joinL' sep ss)) else none
    | none => none) = _
    rw [strsOf_map']
    exact if_pos hz
  · cases h
def srfind (s x : List Nat) : Option Int := match x with
  | [c] => some (rfindL s c)
  | _ => none
theorem srfind_ok {s x : List Nat} {n : Int} (h : srfind s x = some n) : rfindF [.str s, .str x] = some (.int n) := by
  unfold srfind at h
  split at h
  · cases h; rfl
  · cases h
def sfind (s x : List Nat) : Option Int := match x with
  | [c] => some (findL s c)
  | _ => none
theorem sfind_ok {s x : List Nat} {n : Int} (h : sfind s x = some n) : findF [.str s, .str x] = some (.int n) := by
  unfold sfind at h
  split at h
  · cases h; rfl
  · cases h
def scount (s x : List Nat) : Option Int := match x with
  | [c] => some (s.count c : Nat)
  | _ => none
theorem scount_ok {s x : List Nat} {n : Int} (h : scount s x = some n) : countF [.str s, .str x] = some (.int n) := by
  unfold scount at h
  split at h
  · cases h; rfl
  · cases h
def ins (le : α → α → Bool) (x : α) : List α → List α
  | [] => [x]
  | y :: l => if le x y then x :: y :: l else y :: ins le x l
def chars (s : List Nat) : List (List Nat) := s.map fun c => [c]
theorem it_str {s : List Nat} : itemsF [.str s] = some ((chars s).map eStr) := by
  show some _ = _
  unfold chars
  rw [List.map_map]
  rfl
theorem it_lst {l : List α} : itemsF [eLst e l] = some (l.map e) := rfl
theorem it_tup {l : List α} : itemsF [eTup e l] = some (l.map e) := rfl
def irange (a : Int) (n : Nat) : List Int := (List.range n).map fun (i : Nat) => a + (i : Int)
theorem irange_map (a : Int) (n : Nat) : rangeL a n 1 = (irange a n).map eInt := by
  unfold rangeL irange
  rw [List.map_map]
  refine List.map_congr_left fun i _ => ?_
  show D.int _ = D.int _
  rw [Int.mul_one]
def trange1 (n : Int) : Option (List Int) := if n < 4611686018427387904 ∧ -4611686018427387904 ≤ n then some (irange 0 n.toNat) else none
theorem trange1_ok {n : Int} {l : List Int} (h : trange1 n = some l) : range1F [.int n] = some (l.map eInt) := by
  unfold trange1 at h
  split at h
  · rename_i hz
    cases h
    show (if _ then _ else _) = _
    rw [if_pos hz, irange_map]
  · cases h
def trange2 (a b : Int) : Option (List Int) := if (a < 4611686018427387904 ∧ -4611686018427387904 ≤ a) ∧ (b < 4611686018427387904 ∧ -4611686018427387904 ≤ b) then some (irange a (b - a).toNat) else none
theorem trange2_ok {a b : Int} {l : List Int} (h : trange2 a b = some l) : range2F [.int a, .int b] = some (l.map eInt) := by
  unfold trange2 at h
  split at h
  · rename_i hz
    cases h
    show (if _ then _ else _) = _
    rw [if_pos hz, irange_map]
  · cases h
def enumI (i : Int) : List α → List (Int × α)
  | [] => []
  | x :: l => (i, x) :: enumI (i + 1) l
theorem numL_map : ∀ (l : List α) (i : Nat), numL i (l.map e) = (enumI (i : Int) l).map (e2 eInt e)
  | [], _ => rfl
  | x :: l, i => by
    show _ :: numL (i + 1) (l.map e) = _
    rw [numL_map l (i + 1)]
    rfl
theorem en_lst {l : List α} : enumF [eLst e l] = some ((enumI 0 l).map (e2 eInt e)) := by
  show some (numL 0 (l.map e)) = _
  rw [numL_map]
  rfl
theorem en_tup {l : List α} : enumF [eTup e l] = some ((enumI 0 l).map (e2 eInt e)) := by
  show some (numL 0 (l.map e)) = _
  rw [numL_map]
  rfl
theorem en_str {s : List Nat} : enumF [.str s] = some ((enumI 0 (chars s)).map (e2 eInt eStr)) := by
  show some (numL 0 (s.map fun c => D.str [c])) = _
  have : (s.map fun c => D.str [c]) = (chars s).map eStr := by unfold chars; rw [List.map_map]; rfl
  rw [this, numL_map]
  rfl
theorem zipL_map {e' : β → D} : ∀ (l : List α) (m : List β), zipL (l.map e) (m.map e') = (l.zip m).map (e2 e e')
  | [], _ => by simp [zipL]
  | _ :: _, [] => by simp [zipL]
  | x :: l, y :: m => by
    show _ :: zipL (l.map e) (m.map e') = _
    rw [zipL_map l m]
    rfl
theorem zp {e' : β → D} {d1 d2 : D} {l : List α} {m : List β} (h1 : srcD d1 = some (l.map e)) (h2 : srcD d2 = some (m.map e')) : zip2F [d1, d2] = some ((l.zip m).map (e2 e e')) := by
  unfold zip2F
  simp only [h1, h2]
  rw [zipL_map]
theorem src_lst {l : List α} : srcD (eLst e l) = some (l.map e) := rfl
theorem dsp_l {l m : List α} {ds : List D} (h : lenOk l = some m) (hd : ds = l.map e) : lstS ds = some (eLst e m) := by
  obtain ⟨rfl, h2⟩ := lenOk_eq h
  unfold lstS
  rw [hd, if_pos (by rw [List.length_map]; exact h2)]
end
section
variable {ko : Bool} {α β γ δ σ τ ρ : Type} {I : β → D} {O : τ → D} {x : Ex} {xs : List Ex} {p p1 p2 pw : Pt} {g : List D → Option (List D)} {vs : List Nat} {tg : Tg} {cs : List Ex} {l : List β}
def tmap (f : β → τ) (l : List β) : Option (List τ) := lenOk (l.map f)
def tfil (c : β → Bool) (f : β → τ) (l : List β) : Option (List τ) := lenOk ((l.filter c).map f)
def cmp (t : β → Option (List τ)) : List β → Option (List τ)
  | [] => some []
  | b :: l => (t b).bind fun ys => (cmp t l).bind fun zs => some (ys ++ zs)
def tcmp (t : β → Option (List τ)) (l : List β) : Option (List τ) := (cmp t l).bind lenOk
def tcmpS (t : β → σ → Option (List τ × σ)) (l : List β) (s : σ) : Option (List τ × σ) := (cmpL t l s).bind fun q => (lenOk q.1).bind fun ys => some (ys, q.2)
theorem cmpL_cmp (t : β → Option (List τ)) : ∀ (l : List β) (ys : List τ), cmp t l = some ys → cmpL (fun b (_ : Unit) => (t b).bind fun ys => some (ys, ())) l () = some (ys, ())
  | [], ys, h => by cases h; rfl
  | b :: l, ys, h => by
    unfold cmp at h
    obtain ⟨y1, h1, h⟩ := Option.bind_eq_some_iff.mp h
    obtain ⟨y2, h2, h⟩ := Option.bind_eq_some_iff.mp h
    cases h
    unfold cmpL
    rw [h1]
    show (cmpL _ l ()).bind _ = _
    rw [cmpL_cmp t l y2 h2]
    rfl
theorem ev_lcU {t : β → Option (List τ)} {ys : List τ} (hi : It g xs p (l.map I) p1) (hs : softP p1 vs = true) (hw : wipeP p1 vs = pw)
    (turn : ∀ b ys, t b = some ys → Turn tg vs cs x pw (I b) (ys.map O) pw) (h : tcmp t l = some ys) (hb : backP p1 pw vs = p2) : Ev (.lc g xs vs tg cs x) p (.pers (eLst O ys)) p2 := by
  obtain ⟨zs, h1, h2⟩ := Option.bind_eq_some_iff.mp h
  obtain ⟨rfl, h3⟩ := lenOk_eq h2
  subst hb
  exact ev_lc (fun _ : Unit => pw) (s := ()) hi hs hw (fun b s ys s' q => by
    obtain ⟨y1, q1, q2⟩ := Option.bind_eq_some_iff.mp q
    cases q2
    exact turn b _ q1) (cmpL_cmp t l _ h1) h3
theorem cmp_map (f : β → τ) : ∀ l : List β, cmp (fun b => some [f b]) l = some (l.map f)
  | [] => rfl
  | b :: l => by
    show (cmp _ l).bind _ = _
    rw [cmp_map f l]
    rfl
theorem cmp_fil (c : β → Bool) (f : β → τ) : ∀ l : List β, cmp (fun b => some (if c b = true then [f b] else [])) l = some ((l.filter c).map f)
  | [] => rfl
  | b :: l => by
    show (cmp _ l).bind _ = _
    rw [cmp_fil c f l, List.filter_cons]
    show some _ = some _
    cases c b <;> rfl
theorem ev_lcM {f : β → τ} {ys : List τ} (hi : It g xs p (l.map I) p1) (hs : softP p1 vs = true) (hw : wipeP p1 vs = pw)
    (turn : ∀ b, Turn tg vs cs x pw (I b) [O (f b)] pw) (h : tmap f l = some ys) (hb : backP p1 pw vs = p2) : Ev (.lc g xs vs tg cs x) p (.pers (eLst O ys)) p2 :=
  ev_lcU (t := fun b => some [f b]) hi hs hw (fun b ys q => by cases q; exact turn b) (by unfold tcmp; rw [cmp_map]; exact h) hb
theorem ev_lcF {c : β → Bool} {f : β → τ} {ys : List τ} (hi : It g xs p (l.map I) p1) (hs : softP p1 vs = true) (hw : wipeP p1 vs = pw)
    (tT : ∀ b, c b = true → Turn tg vs cs x pw (I b) [O (f b)] pw) (tF : ∀ b, c b = false → Turn tg vs cs x pw (I b) [] pw) (h : tfil c f l = some ys) (hb : backP p1 pw vs = p2) : Ev (.lc g xs vs tg cs x) p (.pers (eLst O ys)) p2 :=
  ev_lcU (t := fun b => some (if c b = true then [f b] else [])) hi hs hw (fun b ys q => by
    cases q
    cases k : c b with
    | true => exact tT b k
    | false => exact tF b k) (by unfold tcmp; rw [cmp_fil]; exact h) hb
theorem ev_lcS (P : σ → Pt) {t : β → σ → Option (List τ × σ)} {ys : List τ} {s s' : σ} (hi : It g xs p (l.map I) p1) (hs : softP p1 vs = true) (hw : wipeP p1 vs = P s)
    (turn : ∀ b s ys s', t b s = some (ys, s') → Turn tg vs cs x (P s) (I b) (ys.map O) (P s')) (h : tcmpS t l s = some (ys, s')) (hb : backP p1 (P s') vs = p2) : Ev (.lc g xs vs tg cs x) p (.pers (eLst O ys)) p2 := by
  obtain ⟨q, h1, h2⟩ := Option.bind_eq_some_iff.mp h
  obtain ⟨zs, h3, h4⟩ := Option.bind_eq_some_iff.mp h2
  obtain ⟨rfl, h5⟩ := lenOk_eq h3
  cases h4
  subst hb
  exact ev_lc P hi hs hw turn h1 h5
theorem turnK {tg : Tg} {vs : List Nat} {cs : List Ex} {d d1 : D} {p p1 p2 p3 p4 p5 : Pt} {r : Rv} (hb : tg.bp d p = some p1) (hc : Evt cs p1 true p2) (he : Ev x p2 r p3) (hs : sp p3 r = some (d1, p4)) (hw : wipeP p4 vs = p5) : Turn tg vs cs x p d [d1] p5 := hw ▸ turn_keep hb hc he hs
theorem turnD {tg : Tg} {vs : List Nat} {cs : List Ex} {d : D} {p p1 p2 p5 : Pt} (hb : tg.bp d p = some p1) (hc : Evt cs p1 false p2) (hw : wipeP p2 vs = p5) : Turn tg vs cs x p d [] p5 := hw ▸ turn_drop hb hc
theorem ev_lc2U {t : β → Option (List τ)} {g2 : List D → Option (List D)} {vs1 : List Nat} {tg2 : Tg} {cs1 as2 : List Ex} {ys : List τ} (hi : It g xs p (l.map I) p1) (hs : softP p1 vs = true) (hv : vs1.all (fun i => vs.contains i) = true) (hw : wipeP p1 vs = pw)
    (turn : ∀ b ys, t b = some ys → Turn2 tg vs vs1 tg2 cs1 g2 as2 cs x pw (I b) (ys.map O) pw) (h : tcmp t l = some ys) (hb : backP p1 pw vs = p2) : Ev (.lc2 g xs vs tg cs1 g2 as2 vs1 tg2 cs x) p (.pers (eLst O ys)) p2 := by
  obtain ⟨zs, h1, h2⟩ := Option.bind_eq_some_iff.mp h
  obtain ⟨rfl, h3⟩ := lenOk_eq h2
  subst hb
  exact ev_lc2 (fun _ : Unit => pw) (s := ()) hi hs hv hw (fun b s ys s' q => by
    obtain ⟨y1, q1, q2⟩ := Option.bind_eq_some_iff.mp q
    cases q2
    exact turn b _ q1) (cmpL_cmp t l _ h1) h3
theorem turn2K {α : Type} {I : α → D} {t : α → Option (List τ)} {tg tg2 : Tg} {vs vs1 : List Nat} {cs1 cs : List Ex} {g2 : List D → Option (List D)} {d : D} {p p1 p2 p3 pw p5 : Pt} {l : List α} {ys : List τ} (hb : tg.bp d p = some p1) (hc : Evt cs1 p1 true p2) (hi : It g2 xs p2 (l.map I) p3) (hs : softP p3 vs1 = true) (hw : wipeP p3 vs1 = pw)
    (turn : ∀ b ys, t b = some ys → Turn tg2 vs1 cs x pw (I b) (ys.map O) pw) (h : cmp t l = some ys) (he : wipeP pw vs = p5) : Turn2 tg vs vs1 tg2 cs1 g2 xs cs x p d (ys.map O) p5 := he ▸
  turn2_keep (fun _ : Unit => pw) (s := ()) hb hc hi hs hw (fun b s ys s' q => by
    obtain ⟨y1, q1, q2⟩ := Option.bind_eq_some_iff.mp q
    cases q2
    exact turn b _ q1) (cmpL_cmp t l _ h)
theorem ev_eq {α : Type} {enc : α → D} {v w : α} (h : Ev x p (.pers (enc v)) p1) (q : some v = some w) : Ev x p (.pers (enc w)) p1 := by
  have e := Option.some.inj q
  subst e
  exact h
theorem ev_iteP {α : Type} {enc : α → D} {u v : α} {y z : Ex} {c : Bool} {r : Rv} {d : D} (h : Ev x p r p1) (hg : gp p1 r = some d) (ht : truth d = some c) (ha : c = true → Ev y p1 (.pers (enc u)) p2) (hb : c = false → Ev z p1 (.pers (enc v)) p2) : Ev (.ite x y z) p (.pers (enc (if c = true then u else v))) p2 := by
  refine ev_ite h hg ht (fun k => ?_) fun k => ?_
  · rw [if_pos k]; exact ha k
  · rw [if_neg (by rw [k]; exact fun z => nomatch z)]; exact hb k
theorem fin_retE {ρ σ : Type} {P : σ → Pt} {enc : ρ → D} {q : ρ → Env' → Prop} {r : Rv} {d : D} {v w : ρ} (h : Ev x p r p1) (hs : sp p1 r = some (d, p2)) (hd : d = enc v) (k : some v = some w) (hq : ∀ e, Mt p2 e → q v e) : Fin false (.ret x) p (.ret w : Ctl ρ σ) P enc q := by
  have e := Option.some.inj k
  subst e
  exact fin_ret h hs hd hq
theorem fin_nxE {ρ σ : Type} {s : S} {P : σ → Pt} {enc : ρ → D} {q : ρ → Env' → Prop} (mk : List Nat) {v st : σ} (h : Nx s p p1) (hm : maskOk mk p1 = true) (he : maskP mk p1 = P v) (k : some v = some st) : Fin ko s p (.nxt st) P enc q := by
  have e := Option.some.inj k
  subst e
  exact fin_nx mk h hm he
theorem fin_to {ρ σ : Type} {s : S} {p p' : Pt} {c : Ctl ρ σ} {P : σ → Pt} {enc : ρ → D} {q : ρ → Env' → Prop} (h : p = p') (f : Fin ko s p' c P enc q) : Fin ko s p c P enc q := h ▸ f
end
end Mi.T
namespace Mi.T
open PySem PySem.Spec PyProof.Rows L2 GxR
def tapp {α : Type} (l : List α) (x : α) : Option (List α) := if l.length < 16000000 then some (l ++ [x]) else none
section
variable {ko : Bool} {α ρ σ : Type} {e : α → D} {a b s : S} {c : Ctl ρ σ} {P : σ → Pt} {enc : ρ → D} {q : ρ → Env' → Prop} {x : Ex} {p p1 p2 : Pt} {r : Rv} {i : Nat}
theorem nx_appT {l l' : List α} {v : α} (ho : lstP p i = true) (h : Ev x p r p1) (hs : sp p1 r = some (e v, p2)) (hi : p2[i]? = some (.ex (.ow (eLst e l)))) (k : tapp l v = some l') : Nx (.app i x) p (p2.set i (.ex (.ow (eLst e l')))) := by
  unfold tapp at k
  split at k
  · rename_i hz
    cases k
    have := nx_app (i := i) ho h hs hi (by rw [List.length_map]; exact hz)
    rw [show D.lst (l.map e ++ [e v]) = eLst e (l ++ [v]) from by simp] at this
    exact this
  · cases k
def ctl {α : Type} (c : Ctl ρ σ) (f : σ → Option α) (g : ρ → Option α) : Option α := match c with
  | .nxt s => f s
  | .brk _ => none
  | .ret r => g r
theorem fin_seqJ {σ' : Type} {st : σ'} {P' : σ' → Pt} (h : Fin ko a p (.nxt st : Ctl ρ σ') P' enc q) (f : Fin ko b (P' st) c P enc q) : Fin ko (.seq a b) p c P enc q := fin_seq h f
theorem fin_retP {w : ρ} {σ' : Type} {P' : σ' → Pt} (f : Fin ko a p (.ret w : Ctl ρ σ') P' enc q) : Fin ko a p (.ret w : Ctl ρ σ) P enc q := f
variable {s1 s2 s3 s4 s5 s6 t : S}
end
def optC {α β : Type} (o : Option α) (a : Option β) (b : α → Option β) : Option β := match o with
  | none => a
  | some x => b x
section
variable {ko : Bool} {α ρ σ : Type} {a b s : S} {c : Ctl ρ σ} {P : σ → Pt} {enc : ρ → D} {q : ρ → Env' → Prop} {x y z : Ex} {p p1 p2 : Pt} {r r2 : Rv} {d : D} {k k1 k2 : Bool}
def Tst (x : Ex) (p : Pt) (b : Bool) (p' : Pt) : Prop := ∃ r d, Ev x p r p' ∧ gp p' r = some d ∧ truth d = some b
theorem tst_of (h : Ev x p r p1) (hg : gp p1 r = some d) (ht : truth d = some k) : Tst x p k p1 := ⟨r, d, h, hg, ht⟩
theorem tk (h : Tst x p k p1) (e : k = k1) : Tst x p k1 p1 := e ▸ h
theorem tst_and (h : Tst x p k1 p1) (hy : k1 = true → Tst y p1 k2 p1) : Tst (.and_ x y) p (k1 && k2) p1 := by
  obtain ⟨r, d, h1, h2, h3⟩ := h
  cases k1 with
  | true =>
    obtain ⟨r', d', g1, g2, g3⟩ := hy rfl
    exact ⟨r', d', ev_andT h1 h2 h3 g1, g2, g3⟩
  | false => exact ⟨r, d, ev_andF h1 h2 h3, h2, h3⟩
theorem tst_or (h : Tst x p k1 p1) (hy : k1 = false → Tst y p1 k2 p1) : Tst (.or_ x y) p (k1 || k2) p1 := by
  obtain ⟨r, d, h1, h2, h3⟩ := h
  cases k1 with
  | false =>
    obtain ⟨r', d', g1, g2, g3⟩ := hy rfl
    exact ⟨r', d', ev_orF h1 h2 h3 g1, g2, g3⟩
  | true => exact ⟨r, d, ev_orT h1 h2 h3, h2, h3⟩
theorem tst_andM {tb : Option Bool} (h : Tst x p k1 p1) (q : (if k1 = true then tb else some false) = some k2) (hy : k1 = true → tb = some k2 → Tst y p1 k2 p1) : Tst (.and_ x y) p k2 p1 := by
  cases k1 with
  | true => exact tst_and h fun _ => hy rfl q
  | false => cases q; exact tst_and (k2 := false) h (fun z => nomatch z)
theorem tst_orM {tb : Option Bool} (h : Tst x p k1 p1) (q : (if k1 = true then some true else tb) = some k2) (hy : k1 = false → tb = some k2 → Tst y p1 k2 p1) : Tst (.or_ x y) p k2 p1 := by
  cases k1 with
  | true => cases q; exact tst_or (k2 := true) h (fun z => nomatch z)
  | false => exact tst_or h fun _ => hy rfl q
theorem tst_eq (h : Tst x p k1 p1) (e : some k1 = some k2) : Tst x p k2 p1 := tk h (Option.some.inj e)
theorem not_tst (h : Tst x p k p1) : Ev (.op notF [x]) p (.pers (.bl (!k))) p1 := by
  obtain ⟨r, d, h1, h2, h3⟩ := h
  refine ev_op (ds := [d]) (evs_c h1 evs_n) ?_ (not_of h3)
  unfold gps
  rw [h2]
  rfl
theorem evt_t (h : Tst x p k p1) : Evt [x] p k p1 := by
  obtain ⟨r, d, h1, h2, h3⟩ := h
  exact evt_c h1 h2 h3
theorem t_ifT (h : Tst x p true p1) (f : Fin ko a p1 c P enc q) : Fin ko (.iff x a b) p c P enc q := by
  obtain ⟨r, d, h1, h2, h3⟩ := h
  exact fin_ifT h1 h2 h3 f
theorem t_ifF (h : Tst x p false p1) (f : Fin ko b p1 c P enc q) : Fin ko (.iff x a b) p c P enc q := by
  obtain ⟨r, d, h1, h2, h3⟩ := h
  exact fin_ifF h1 h2 h3 f
theorem t_sifT (h : Tst x p true p1) (f : Fin ko (.seq a s) p1 c P enc q) : Fin ko (.seq (.iff x a b) s) p c P enc q := by
  obtain ⟨r, d, h1, h2, h3⟩ := h
  exact fin_sifT h1 h2 h3 f
theorem t_sifF (h : Tst x p false p1) (f : Fin ko (.seq b s) p1 c P enc q) : Fin ko (.seq (.iff x a b) s) p c P enc q := by
  obtain ⟨r, d, h1, h2, h3⟩ := h
  exact fin_sifF h1 h2 h3 f
theorem t_ite (h : Tst x p k p1) (ha : k = true → Ev y p1 r2 p2) (hb : k = false → Ev z p1 r2 p2) : Ev (.ite x y z) p r2 p2 := by
  obtain ⟨r, d, h1, h2, h3⟩ := h
  exact ev_ite h1 h2 h3 ha hb
theorem t_iteP {enc : α → D} {u v : α} (h : Tst x p k p1) (ha : k = true → Ev y p1 (.pers (enc u)) p2) (hb : k = false → Ev z p1 (.pers (enc v)) p2) : Ev (.ite x y z) p (.pers (enc (if k = true then u else v))) p2 := by
  obtain ⟨r, d, h1, h2, h3⟩ := h
  exact ev_iteP h1 h2 h3 ha hb
end
theorem fldR_nobrk {β ρ σ : Type} {t : β → σ → Option (Ctl ρ σ)} : ∀ {l : List β} {s s' : σ}, fldR t l s = some (.brk s') → False
  | [], _, _, h => by cases h
  | b :: l, s, s', h => by
    unfold fldR at h
    obtain ⟨c, h1, h2⟩ := Option.bind_eq_some_iff.mp h
    cases c with
    | nxt s1 => exact fldR_nobrk h2
    | brk s1 => cases h2
    | ret r => cases h2
theorem whl_nobrk {ρ σ : Type} {tc : σ → Option Bool} {t : σ → Option (Ctl ρ σ)} : ∀ {n : Nat} {s s' : σ}, whl tc t n s = some (.brk s') → False
  | 0, _, _, h => by cases h
  | n + 1, s, s', h => by
    unfold whl at h
    obtain ⟨k, h0, h⟩ := Option.bind_eq_some_iff.mp h
    cases k with
    | false => cases h
    | true =>
      obtain ⟨c, h1, h2⟩ := Option.bind_eq_some_iff.mp h
      cases c with
      | nxt s1 => exact whl_nobrk h2
      | brk s1 => cases h2
      | ret r => cases h2
def un3 {α : Type} (l : List α) : Option (α × α × α) := match l with
  | [a, b, c] => some (a, b, c)
  | _ => none
theorem un3_ok {α : Type} {l : List α} {w : α × α × α} (h : un3 l = some w) : some l = some [w.1, w.2.1, w.2.2] := by
  unfold un3 at h
  split at h
  · cases h; rfl
  · cases h
end Mi.T
namespace Mi.T
open PySem PySem.Spec PyProof.Rows L2 GxR
section
variable {ρ σ : Type} {P : σ → Pt} {enc : ρ → D} {q : ρ → Env' → Prop} {x : Ex} {p p1 : Pt} {d : D} {i : Nat}
theorem fin_retOE {v w : ρ} (h : Ev x p (.pers d) p1) (hd : d = enc v) (k : some v = some w) (hq : ∀ e, Mt p1 e → q v e) : Fin true (.retO x) p (.ret w) P enc q := by
  cases k
  exact fin_retO h hd hq
theorem fin_retVE {v w : ρ} (hi : p[i]? = some (.ex (.ow d))) (hd : d = enc v) (k : some v = some w) (hq : ∀ e, Mt p e → q v e) : Fin true (.retV i) p (.ret w) P enc q := by
  cases k
  exact fin_retV hi hd hq
end
theorem orF_r {f g : List D → Option D} {ds : List D} {d : D} (h0 : f ds = none) (h : g ds = some d) : orF f g ds = some d := by
  unfold orF
  rw [h0]
  exact h
section
variable {α : Type} {e : α → D}
def bestOk : List D → Bool
  | [] => false
  | x :: r => x.same x && r.all (fun y => x.same y) && (x :: r).all (fun y => y.shp 16) && (intsOf (x :: r)).isNone
def tbest (lt : D → D → Bool) (e : α → D) (l : List α) : Option α := if bestOk (l.map e) then (match l with
  | [] => none
  | x :: r => some (r.foldl (fun a y => if lt (e a) (e y) then y else a) x)) else none
theorem foldl_enc {lt : D → D → Bool} : ∀ (r : List α) (x : α), (r.map e).foldl (fun a y => if lt a y then y else a) (e x) = e (r.foldl (fun a y => if lt (e a) (e y) then y else a) x)
  | [], _ => rfl
  | y :: r, x => by
    rw [List.map_cons, List.foldl_cons, List.foldl_cons, ← foldl_enc r]
    congr 1
    split <;> rfl
theorem tbest_spec {lt : D → D → Bool} {l : List α} {m : α} (h : tbest lt e l = some m) : intsOf (l.map e) = none ∧ bestL (fun x l => l.foldl (fun a y => if lt a y then y else a) x) (l.map e) = some (e m) := by
  unfold tbest at h
  by_cases hz : bestOk (l.map e) = true
  case neg => rw [if_neg hz] at h; cases h
  rw [if_pos hz] at h
  cases l with
  | nil => cases h
  | cons x r =>
    cases h
    simp only [List.map_cons, bestOk, Bool.and_eq_true] at hz
    refine ⟨Option.isNone_iff_eq_none.mp hz.2, ?_⟩
    simp only [List.map_cons, bestL]
    rw [if_pos ⟨hz.1.1.1, hz.1.1.2, hz.1.2⟩, foldl_enc]
def tminB (e : α → D) (l : List α) : Option α := tbest (fun a y => dlt y a) e l
theorem tminB_ok {l : List α} {m : α} (h : tminB e l = some m) : minAF [eLst e l] = some (e m) := by
  obtain ⟨h1, h2⟩ := tbest_spec h
  refine orF_r ?_ h2
  show numsF _ [.lst (l.map e)] = none
  simp only [numsF]
  rw [h1]
end
end Mi.T
namespace Mi.T
open PySem PySem.Spec PyProof.Rows L2 GxR
section
variable {tg : Tg} {vs : List Nat} {cs : List Ex} {x : Ex} {p p1 p2 p3 : Pt} {d y : D}
end
end Mi.T
namespace Mi.T
open PySem PySem.Spec PyProof.Rows L2 GxR
section
variable {α β γ : Type} {k : α → D} {e : β → D} {t : Bool}
end
end Mi.T
namespace Mi.T
open PySem PySem.Spec PyProof.Rows L2 GxR
variable {α : Type} {e : α → D} {p p1 p2 p3 p4 p5 p6 : Pt}
theorem revL_ok {l : List α} : revLF [eLst e l] = some (eLst e l.reverse) := by
  show some (D.lst (l.map e).reverse) = some (D.lst (l.reverse.map e))
  rw [List.map_reverse]
theorem ctl_n {ρ σ α : Type} {s : σ} {f : σ → Option α} {g : ρ → Option α} {r : Option α} (h : ctl (.nxt s) f g = r) : f s = r := h
end Mi.T
namespace Mi.T
open PySem PySem.Spec PyProof.Rows L2 GxR
theorem ev_some {α : Type} {e : α → D} {y : α} {x : Ex} {p p1 : Pt} (h : Ev x p (.pers (e y)) p1) : Ev x p (.pers (eOp e (some y))) p1 := h
section
variable {α β γ : Type} {k : α → D} {e : β → D} {t : Bool}
end
end Mi.T
namespace Mi.T
open PySem PySem.Spec PyProof.Rows L2 GxR
theorem ev_opt {α : Type} {e : α → D} {o : Option α} {y : α} {x : Ex} {p p1 : Pt} (h : Ev x p (.pers (eOp e o)) p1) (q : o = some y) : Ev x p (.pers (e y)) p1 := by
  rw [q] at h
  exact h
end Mi.T
namespace Mi.T
open PySem PySem.Spec PyProof.Rows L2 GxR
def ifdivZ (a b : Int) : Option Int := if b ≠ 0 ∧ b.natAbs < 2 ^ 2000 then some (a.fdiv b) else none
theorem ifdivZ_ok {a b c : Int} (h : ifdivZ a b = some c) : fdivZF [.int a, .int b] = some (.int c) := by
  unfold ifdivZ at h
  split at h
  · rename_i hz; cases h; exact if_pos hz
  · cases h
theorem fdivZ_r {a b : Int} (h : b ≠ 0 ∧ b.natAbs < 2 ^ 2000) : fdivZF [.int a, .int b] = some (.int (a.fdiv b)) := if_pos h
end Mi.T
namespace Mi.T
open PySem PySem.Spec PyProof.Rows L2 GxR
inductive Tr where
  | nd (a b : Int) (kids : List Tr)
deriving Inhabited
mutual
def Tr.beq : Tr → Tr → Bool
  | .nd a b k, .nd c d l => a == c && b == d && Tr.beqs k l
def Tr.beqs : List Tr → List Tr → Bool
  | [], [] => true
  | x :: k, y :: l => Tr.beq x y && Tr.beqs k l
  | _, _ => false
end
instance : BEq Tr := ⟨Tr.beq⟩
mutual
theorem Tr.beq_self : ∀ x : Tr, Tr.beq x x = true
  | .nd a b k => by simp [Tr.beq, Tr.beqs_self k]
theorem Tr.beqs_self : ∀ x : List Tr, Tr.beqs x x = true
  | [] => rfl
  | x :: k => by simp [Tr.beqs, Tr.beq_self x, Tr.beqs_self k]
end
mutual
theorem Tr.eq_of : ∀ x y : Tr, Tr.beq x y = true → x = y
  | .nd a b k, .nd c d l, h => by
    simp only [Tr.beq, Bool.and_eq_true, beq_iff_eq] at h
    rw [h.1.1, h.1.2, Tr.eqs_of k l h.2]
theorem Tr.eqs_of : ∀ x y : List Tr, Tr.beqs x y = true → x = y
  | [], [], _ => rfl
  | [], _ :: _, h => by simp [Tr.beqs] at h
  | _ :: _, [], h => by simp [Tr.beqs] at h
  | x :: k, y :: l, h => by
    simp only [Tr.beqs, Bool.and_eq_true] at h
    rw [Tr.eq_of x y h.1, Tr.eqs_of k l h.2]
end
instance : ReflBEq Tr where
  rfl := fun {a} => Tr.beq_self a
instance : LawfulBEq Tr where
  eq_of_beq := fun {a b} h => Tr.eq_of a b h
instance : DecidableEq Tr := fun a b => if h : Tr.beq a b = true then isTrue (Tr.eq_of a b h) else isFalse fun e => h (e ▸ Tr.beq_self a)
section
variable {x : Ex} {p p1 : Pt}
end
end Mi.T
namespace Mi.T
open PySem PySem.Spec PyProof.Rows L2 GxR
section
variable {p p1 p2 p3 p' : Pt} {e : Env'} {x y : Ex} {xs : List Ex} {r : Rv} {rs : List Rv} {d d0 d1 : D} {ds l l' : List D} {i g k : Nat} {nm f f' : Str} {fs fs' : List (Str × FD)} {s : S}
variable {its : List PIt}
section
variable {ko : Bool} {ρ σ : Type} {a b s : S} {c : Ctl ρ σ} {P : σ → Pt} {enc : ρ → D} {q : ρ → Env' → Prop}
end
end
end Mi.T
namespace Mi.T
open PySem PySem.Spec PyProof.Rows L2 GxR
section
variable {p p1 p2 p3 p' : Pt} {e : Env'} {x y : Ex} {xs : List Ex} {r : Rv} {rs : List Rv} {d d0 d1 : D} {ds l l' : List D} {i g k : Nat} {nm f f' : Str} {fs fs' : List (Str × FD)} {s : S} {vs : List Nat} {tg : Tg} {cs : List Ex} {hh : D → Option (List D)}
theorem lstF1_ok {α : Type} {e : α → D} {l : List α} : lstF1 (eLst e l) = some (l.map e) := rfl
end
end Mi.T
namespace Mi.T
open PySem PySem.Spec PyProof.Rows L2 GxR
def imulW (a b : Int) : Option Int := if a.natAbs.log2 + b.natAbs.log2 < 1000000 then some (a * b) else imul a b
theorem imulW_ok {a b c : Int} (h : imulW a b = some c) : mulWF [.int a, .int b] = some (.int c) := by
  unfold imulW at h
  unfold mulWF
  dsimp only
  split at h
  · rename_i hz; cases h; exact if_pos hz
  · rename_i hz; rw [if_neg hz]; exact imul_ok h
theorem imulW_of {a b : Int} (h : -(2 ^ 64) < b ∧ b < 2 ^ 64) : imulW a b = some (a * b) := by
  unfold imulW
  split
  · rfl
  · exact if_pos (.inr h)
theorem imulW_log {a b : Int} (h : a.natAbs.log2 + b.natAbs.log2 < 1000000) : imulW a b = some (a * b) := if_pos h
end Mi.T
namespace Mi.T
open PySem PySem.Spec PyProof.Rows L2 GxR
section
variable {p p1 p2 p3 p' : Pt} {e : Env'} {x y : Ex} {d d0 d1 : D} {g k : Nat} {s : S} {tg : Tg} {hh : D → Option (List D)}
theorem nx_forV (h0 : p[g]? = some (.ex (.io d))) (hx : Nx (.forr (fun _ => hh d) [] tg s) (p.set g (.ex (.fr d))) p2) : Nx (.forV hh g tg s) p (p2.set g (.ex (.io d))) := fun e m => by
  obtain ⟨b, q1, q2⟩ := m.get h0
  cases q2
  obtain ⟨e', k1, m1⟩ := hx (e.set g (.fr d)) (m.set g rfl)
  refine ⟨e'.set g (.io d), ?_, m1.set g rfl⟩
  unfold ex evs settles at k1
  dsimp only at k1
  unfold ex
  rw [q1]
  dsimp only
  cases hd : hh d with
  | none => rw [hd] at k1; cases k1
  | some items =>
    rw [hd] at k1
    dsimp only at k1 ⊢
    rw [k1]
    rfl
end
end Mi.T
namespace Mi
open PySem PySem.Spec PyProof.Rows L2 GxR
def s__law_taken : S := .seq (.iff (.op gtG [.op ixA [.var 0, .cst (.int 3)], .cst (.int 0)]) (.seq (.set (.nm 2) (.op modF [.op intF [.op ixA [.var 0, .cst (.int 3)]], .var 1])) (
      .seq (.sub setA 0 (.cst (.int 3)) (.op fdivZF [.op ixA [.var 0, .cst (.int 3)], .var 1])) (
      .ret (.var 2)))) (.skip)) (
    .seq (.sub setA 0 (.cst (.int 1)) (.op addF [.op ixA [.var 0, .cst (.int 1)], .cst (.int 1)])) (
    .seq (.iff (.op gtG [.op ixA [.var 0, .cst (.int 1)], .op lenA [.op ixA [.var 0, .cst (.int 0)]]]) (.seq (.sub setA 0 (.cst (.int 2)) (.op modF [.op intF [.op addF [.op mulWF [.op ixA [.var 0, .cst (.int 2)], .cst (.int 48271)], .cst (.int 11)]], .cst (.int 2147483647)])) (
      .ret (.op modF [.op intF [.op fdivZF [.op ixA [.var 0, .cst (.int 2)], .cst (.int 7)]], .var 1]))) (.skip)) (
    .seq (.set (.nm 3) (.op ixA [.op ixA [.var 0, .cst (.int 0)], .op subF [.op ixA [.var 0, .cst (.int 1)], .cst (.int 1)]])) (
    .seq (.sub setA 0 (.cst (.int 2)) (.op modF [.op intF [.op addF [.op addF [.op mulWF [.op ixA [.var 0, .cst (.int 2)], .cst (.int 48271)], .var 3], .cst (.int 11)]], .cst (.int 2147483647)])) (
    .seq (.iff (.op geG [.var 3, .op powF [.cst (.int 10), .cst (.int 18)]]) (.sub setA 0 (.cst (.int 3)) (.op fdivZF [.var 3, .var 1])) (.skip)) (
    .ret (.op modF [.op intF [.var 3], .var 1])))))))
def φ__law_taken : List D → Option (D × D) := runO 2 4 s__law_taken
def s_is_in : S := .ret (.and_ (.op (isiF [.int]) [.var 0]) (.and_ (.op notF [.op (isiF [.bool]) [.var 0]]) (.chain leG leG (.var 1) (.var 0) (.var 2))))
def φ_is_in : List D → Option D := runI 3 3 s_is_in
def s_need_span : S := .iff (.op notF [.call φ_is_in [.var 0, .cst (.int 1), .cst (.int 9)]]) (.never) (.skip)
def φ_need_span : List D → Option D := runI 1 1 s_need_span
def s_is_input : S := .seq (.iff (.or_ (.op notF [.op (isiF [.str]) [.var 0]]) (.op gtG [.op lenA [.var 0], .cst (.int 200)])) (.ret (.cst (.bl false))) (.skip)) (
    .ret (.op (allF (fun c => decide (c ∈ ((⟨#[117, 100]⟩ : Str)).cps.toList))) [.var 0]))
def φ_is_input : List D → Option D := runI 1 1 s_is_input
def fl_need_asked_1 : S := .forr enumF [.var 1] (.tp [.nm 2, .nm 3]) (.iff (.op notF [.call φ_is_input [.var 3]]) (.never) (.skip))
def s_need_asked : S := .seq (.exp (.call φ_need_span [.var 0])) (
    .seq (.iff (.or_ (.op notF [.op (isiF [.tuple]) [.var 1]]) (.op gtG [.op lenA [.var 1], .cst (.int 20)])) (.never) (.skip)) (
    fl_need_asked_1))
def φ_need_asked : List D → Option D := runI 2 4 s_need_asked
def fl_lead_1 : S := .forr enumF [.var 0] (.tp [.nm 1, .nm 2]) (.iff (.op neF [.op ixA [.var 2, .cst (.int 0)], .cst (.int 0)]) (.ret (.var 1)) (.skip))
def s_lead : S := .seq (fl_lead_1) (
    .ret (.cst .non))
def φ_lead : List D → Option D := runI 1 3 s_lead
def s_ratio : S := .seq (.set (.nm 2) (.ite (.op gtG [.var 1, .cst (.int 0)]) (.op gcdF [.var 0, .var 1]) (.op subF [.cst (.int 0), .op gcdF [.var 0, .var 1]]))) (
    .ret (.mk tupF1 [.op fdivZF [.var 0, .var 2], .op fdivZF [.var 1, .var 2]]))
def φ_ratio : List D → Option D := runI 2 3 s_ratio
def s_over : S := .ret (.call φ_ratio [.op mulWF [.op ixA [.var 0, .cst (.int 0)], .op ixA [.var 1, .cst (.int 1)]], .op mulWF [.op ixA [.var 0, .cst (.int 1)], .op ixA [.var 1, .cst (.int 0)]]])
def φ_over : List D → Option D := runI 2 2 s_over
def s_minus : S := .ret (.call φ_ratio [.op subF [.op mulWF [.op ixA [.var 0, .cst (.int 0)], .op ixA [.var 1, .cst (.int 1)]], .op mulWF [.op ixA [.var 1, .cst (.int 0)], .op ixA [.var 0, .cst (.int 1)]]], .op mulWF [.op ixA [.var 0, .cst (.int 1)], .op ixA [.var 1, .cst (.int 1)]]])
def φ_minus : List D → Option D := runI 2 2 s_minus
def s_by : S := .ret (.call φ_ratio [.op mulWF [.op ixA [.var 0, .cst (.int 0)], .op ixA [.var 1, .cst (.int 0)]], .op mulWF [.op ixA [.var 0, .cst (.int 1)], .op ixA [.var 1, .cst (.int 1)]]])
def φ_by : List D → Option D := runI 2 2 s_by
def lc_reduced_by_o_1 : Ex := .lc zip2F [.var 1, .var 2] [5, 6] (.tp [.nm 5, .nm 6]) [] (.call φ_minus [.var 5, .call φ_by [.var 4, .var 6]])
def fl_reduced_by_o_2 : S := .forV lstF1 0 (.nm 2) (.seq (.set (.nm 3) (.call φ_lead [.var 2])) (
      .iff (.op neF [.op ixA [.op ixA [.var 1, .var 3], .cst (.int 0)], .cst (.int 0)]) (.seq (.set (.nm 4) (.call φ_over [.op ixA [.var 1, .var 3], .op ixA [.var 2, .var 3]])) (
        .set (.nm 1) (lc_reduced_by_o_1))) (.skip)))
def s_reduced_by_o : S := .seq (fl_reduced_by_o_2) (
    .ret (.var 1))
def φ_reduced_by_o : List D → Option (D × D) := runO 2 7 s_reduced_by_o
def s_step : S := .seq (.set (.tp [.nm 2, .nm 3]) (.ite (.op eqF [.var 1, .cst (.str [117])]) (.mk tupF1 [.cst (.str [48]), .cst (.str [49])]) (.mk tupF1 [.cst (.str [49]), .cst (.str [48])]))) (
    .seq (.set (.nm 4) (.op rfindF [.var 0, .var 2])) (
    .ret (.ite (.op ltG [.var 4, .cst (.int 0)]) (.var 0) (.op addF [.op addF [.op (sl2 slF) [.var 0, .var 4], .var 3], .op (sl1 slF) [.var 0, .op addF [.var 4, .cst (.int 1)]]]))))
def φ_step : List D → Option D := runI 2 5 s_step
def fl_behind_1 : S := .forr itemsF [.var 1] (.nm 2) (.set (.nm 0) (.call φ_step [.var 0, .var 2]))
def s_behind : S := .seq (fl_behind_1) (
    .ret (.var 0))
def φ_behind : List D → Option D := runI 2 3 s_behind
def lc_place_1 : Ex := .lc enumF [.var 0] [4, 5] (.tp [.nm 4, .nm 5]) [.op eqF [.var 5, .var 1]] (.var 4)
def s_place : S := .seq (.set (.nm 3) (lc_place_1)) (
    .ret (.ite (.op leG [.var 2, .op lenA [.var 3]]) (.op ixA [.var 3, .op subF [.var 2, .cst (.int 1)]]) (.op lenA [.var 0])))
def φ_place : List D → Option D := runI 3 6 s_place
def s_holds : S := .seq (.set (.tp [.nm 2, .nm 3]) (.var 1)) (
    .ret (.op ltG [.call φ_place [.var 0, .cst (.str [49]), .op addF [.var 3, .cst (.int 1)]], .call φ_place [.var 0, .cst (.str [48]), .op addF [.op subF [.op lenA [.var 0], .var 2], .cst (.int 1)]]]))
def φ_holds : List D → Option D := runI 2 4 s_holds
def lc_all_relays_1 : Ex := .lc2 range2F [.cst (.int 1), .op addF [.var 0, .cst (.int 1)]] [1, 2] (.nm 1) [] range1F [.var 1] [2] (.nm 2) [] (.mk tupF1 [.var 1, .var 2])
def s_all_relays : S := .ret (lc_all_relays_1)
def φ_all_relays : List D → Option D := runI 1 3 s_all_relays
def lc_row_of_1 : Ex := .lc itemsF [.call φ_all_relays [.var 0]] [3] (.nm 3) [] (.op intF [.call φ_holds [.var 2, .var 3]])
def s_row_of : S := .seq (.set (.nm 2) (.call φ_behind [.op mulWF [.cst (.str [48]), .var 0], .var 1])) (
    .ret (lc_row_of_1))
def φ_row_of : List D → Option D := runI 2 4 s_row_of
def lc_basis_of_1 : Ex := .lc itemsF [.call φ_row_of [.var 0, .var 3]] [5] (.nm 5) [] (.mk tupF1 [.var 5, .cst (.int 1)])
def fl_basis_of_2 : S := .forr itemsF [.var 1] (.nm 3) (.seq (.set (.nm 4) (.callO φ_reduced_by_o 2 [lc_basis_of_1])) (
      .iff (.op notNF [.call φ_lead [.var 4], .cst .non]) (.app 2 (.var 4)) (.skip)))
def s_basis_of : S := .seq (.setO 2 (.mk lstF [])) (
    .seq (fl_basis_of_2) (
    .ret (.var 2)))
def φ_basis_of : List D → Option D := runI 2 6 s_basis_of
def s_asked_rank : S := .seq (.exp (.call φ_need_asked [.var 0, .var 1])) (
    .ret (.op lenA [.call φ_basis_of [.var 0, .var 1]]))
def φ_asked_rank : List D → Option D := runI 2 2 s_asked_rank
def s_tells_all : S := .seq (.exp (.call φ_need_asked [.var 0, .var 1])) (
    .ret (.op eqF [.op lenA [.call φ_basis_of [.var 0, .var 1]], .op lenA [.call φ_all_relays [.var 0]]]))
def φ_tells_all : List D → Option D := runI 2 2 s_tells_all
def lc_all_memories_1 : Ex := .lc2 itemsF [.var 1] [3, 4] (.nm 3) [] itemsF [.cst (.str [48, 49])] [4] (.nm 4) [] (.op addF [.var 3, .var 4])
def fl_all_memories_2 : S := .forr range1F [.var 0] (.nm 2) (.set (.nm 1) (lc_all_memories_1))
def s_all_memories : S := .seq (.set (.nm 1) (.mk lstF [.cst (.str [])])) (
    .seq (fl_all_memories_2) (
    .ret (.var 1)))
def φ_all_memories : List D → Option D := runI 1 5 s_all_memories
def lc_on_in_1 : Ex := .lc itemsF [.call φ_all_relays [.op lenA [.var 0]]] [1] (.nm 1) [.call φ_holds [.var 0, .var 1]] (.var 1)
def s_on_in : S := .ret (lc_on_in_1)
def φ_on_in : List D → Option D := runI 1 2 s_on_in
def lc_reduced_by_1 : Ex := .lc zip2F [.var 1, .var 2] [5, 6] (.tp [.nm 5, .nm 6]) [] (.call φ_minus [.var 5, .call φ_by [.var 4, .var 6]])
def fl_reduced_by_2 : S := .forr itemsF [.var 0] (.nm 2) (.seq (.set (.nm 3) (.call φ_lead [.var 2])) (
      .iff (.op neF [.op ixA [.op ixA [.var 1, .var 3], .cst (.int 0)], .cst (.int 0)]) (.seq (.set (.nm 4) (.call φ_over [.op ixA [.var 1, .var 3], .op ixA [.var 2, .var 3]])) (
        .set (.nm 1) (lc_reduced_by_1))) (.skip)))
def s_reduced_by : S := .seq (fl_reduced_by_2) (
    .ret (.var 1))
def φ_reduced_by : List D → Option D := runI 2 7 s_reduced_by
def s_way_from_all (φ : List D → Option D) : S := .seq (.set (.nm 2) (.ite (.op eqF [.var 0, .cst (.str [49])]) (.cst (.str [100])) (.cst (.str [117])))) (
    .seq (.set (.nm 3) (.ite (.op eqF [.var 0, .cst (.str [49])]) (.cst (.str [48])) (.cst (.str [49])))) (
    .seq (.set (.nm 4) (.op findF [.var 1, .var 3])) (
    .seq (.iff (.op ltG [.var 4, .cst (.int 0)]) (.ret (.cst (.str []))) (.skip)) (
    .ret (.op addF [.op mulWF [.var 2, .op subF [.op lenA [.var 1], .var 4]], .call φ [.var 3, .op (sl1 slF) [.var 1, .op addF [.var 4, .cst (.int 1)]]]])))))
def φ_way_from_all : Nat → List D → Option D
  | 0 => fun _ => none
  | t + 1 => runI 2 5 (s_way_from_all (φ_way_from_all t))
def lc_way_of_1 : Ex := .lc range1F [.op lenA [.var 0]] [6] (.nm 6) [.op neF [.op ixA [.var 0, .var 6], .op ixA [.var 1, .var 6]]] (.var 6)
def s_way_of : S := .seq (.iff (.op eqF [.var 0, .var 1]) (.ret (.cst (.str []))) (.skip)) (
    .seq (.set (.nm 2) (.op ixA [lc_way_of_1, .cst (.int 0)])) (
    .seq (.set (.nm 3) (.op ixA [.var 1, .var 2])) (
    .seq (.set (.tp [.nm 4, .nm 5]) (.ite (.op eqF [.var 3, .cst (.str [49])]) (.mk tupF1 [.cst (.str [117]), .cst (.str [48])]) (.mk tupF1 [.cst (.str [100]), .cst (.str [49])]))) (
    .ret (.op addF [.op mulWF [.var 4, .op countF [.op (sl1 slF) [.var 0, .var 2], .var 5]], .call (φ_way_from_all 8) [.var 3, .op (sl1 slF) [.var 1, .op addF [.var 2, .cst (.int 1)]]]])))))
def φ_way_of : List D → Option D := runI 2 7 s_way_of
def lc_next_asking_1 : Ex := .lc itemsF [.call φ_all_relays [.var 0]] [8] (.nm 8) [] (.mk tupF1 [.ite (.op (memB false) [.var 8, .var 5]) (.cst (.int 1)) (.cst (.int 0)), .cst (.int 1)])
def fl_next_asking_2 : S := .forr itemsF [.call φ_all_memories [.var 0]] (.nm 4) (.seq (.set (.nm 5) (.call φ_on_in [.var 4])) (
      .seq (.set (.nm 6) (.call φ_reduced_by [.var 2, lc_next_asking_1])) (
      .iff (.op notNF [.call φ_lead [.var 6], .cst .non]) (.seq (.set (.nm 7) (.call φ_way_of [.op mulWF [.cst (.str [48]), .var 0], .var 4])) (
        .app 3 (.mk tupF1 [.op lenA [.var 7], .var 7]))) (.skip))))
def s_next_asking : S := .seq (.exp (.call φ_need_asked [.var 0, .var 1])) (
    .seq (.parO [2, 3] [false, true] [.call φ_basis_of [.var 0, .var 1], .mk lstF []]) (
    .seq (fl_next_asking_2) (
    .ret (.ite (.var 3) (.op ixA [.op minAF [.var 3], .cst (.int 1)]) (.cst .non)))))
def φ_next_asking : List D → Option D := runI 2 9 s_next_asking
def s__law_pick : S := .ret (.op ixA [.var 1, .callO φ__law_taken 0 [.op lenA [.var 1]]])
def φ__law_pick : List D → Option (D × D) := runO 2 2 s__law_pick
def fl__law_steps_1 : S := .forr range1F [.callO φ__law_taken 0 [.cst (.int 9)]] (.nm 3) (.seq (.set (.nm 2) (.op addF [.var 2, .op mulWF [.var 1, .op addF [.cst (.int 1), .callO φ__law_pick 0 [.mk lstF [.cst (.int 0), .cst (.int 1), .callO φ__law_taken 0 [.cst (.int 9)]]]]]])) (
      .set (.nm 1) (.ite (.op eqF [.var 1, .cst (.str [117])]) (.cst (.str [100])) (.cst (.str [117])))))
def s__law_steps : S := .seq (.par 1 2 (.callO φ__law_pick 0 [.cst (.str [117, 100])]) (.cst (.str []))) (
    .seq (fl__law_steps_1) (
    .ret (.var 2)))
def φ__law_steps : List D → Option (D × D) := runO 1 4 s__law_steps
def s_need_input : S := .iff (.op notF [.call φ_is_input [.var 0]]) (.never) (.skip)
def φ_need_input : List D → Option D := runI 1 1 s_need_input
def wl_settled_1 : S := .whil 1000 (.cst (.bl true)) (.seq (.iff (.op geG [.op ixA [.op ixA [.var 1, .op negF [.cst (.int 1)]], .cst (.int 1)], .var 0]) (.retO (.mk lstF [.mk tupF1 [.op ixA [.op ixA [.var 1, .op negF [.cst (.int 1)]], .cst (.int 0)], .var 0]])) (.skip)) (
      .seq (.iff (.or_ (.op ltG [.op lenA [.var 1], .cst (.int 3)]) (.op ltG [.op ixA [.op ixA [.var 1, .op negF [.cst (.int 1)]], .cst (.int 1)], .op ixA [.op ixA [.var 1, .op negF [.cst (.int 2)]], .cst (.int 1)]])) (.retV 1) (.skip)) (
      .seq (.set (.tp [.tp [.nm 2, .nm 3], .tp [.nm 4, .nm 5], .tp [.nm 6, .nm 7]]) (.op (sl1 slF) [.var 1, .op negF [.cst (.int 3)]])) (
      .iff (.op geG [.var 3, .var 5]) (.setO 1 (.dsp lstS [true, false] [.op (sl2 slF) [.var 1, .op negF [.cst (.int 3)]], .mk tupF1 [.var 2, .op addF [.op subF [.var 3, .var 5], .var 7]]])) (.setO 1 (.mk lstF [.mk tupF1 [.var 4, .op subF [.var 5, .var 3]], .mk tupF1 [.var 6, .var 7]]))))))
def s_settled : S := wl_settled_1
def φ_settled : List D → Option D := runM 2 8 s_settled
def fl_reduce_1 : S := .forr itemsF [.var 1] (.nm 3) (.seq (.iff (.and_ (.var 2) (.op eqF [.op ixA [.op ixA [.var 2, .op negF [.cst (.int 1)]], .cst (.int 0)], .var 3])) (.sub setA 2 (.op negF [.cst (.int 1)]) (.mk tupF1 [.var 3, .op addF [.op ixA [.op ixA [.var 2, .op negF [.cst (.int 1)]], .cst (.int 1)], .cst (.int 1)]])) (.app 2 (.mk tupF1 [.var 3, .cst (.int 1)]))) (
      .mov 2 φ_settled [.var 0]))
def lc_reduce_2 : Ex := .lc itemsF [.var 2] [3, 4] (.tp [.nm 3, .nm 4]) [] (.op mulWF [.var 3, .var 4])
def s_reduce : S := .seq (.setO 2 (.mk lstF [])) (
    .seq (fl_reduce_1) (
    .ret (.op joinF [.cst (.str []), lc_reduce_2])))
def φ_reduce : List D → Option D := runI 2 5 s_reduce
def s_reduced : S := .seq (.exp (.call φ_need_span [.var 0])) (
    .seq (.exp (.call φ_need_input [.var 1])) (
    .ret (.call φ_reduce [.var 0, .var 1])))
def φ_reduced : List D → Option D := runI 2 2 s_reduced
def lc_law_1 : Ex := .lc range1F [.callO φ__law_taken 1 [.cst (.int 7)]] [6] (.nm 6) [] (.op (sl2 slF) [.callO φ__law_steps 1 [], .cst (.int 15)])
def lc_law_2 : Ex := .lc itemsF [.var 3] [10] (.nm 10) [] (.call φ_reduced [.var 2, .op addF [.op mulWF [.cst (.str [100]), .var 2], .var 10]])
def fl_law_3 : S := .forr range1F [.op lenA [.var 3]] (.nm 6) (.iff (.op notF [.chain leG leG (.op subF [.var 4, .cst (.int 1)]) (.call φ_asked_rank [.var 2, .op tupleF [.op addF [.op (sl2 slF) [.var 3, .var 6], .op (sl1 slF) [.var 3, .op addF [.var 6, .cst (.int 1)]]]]]) (.var 4)]) (.ret (.cst (.bl false))) (.skip))
def fl_law_4 : S := .forr range1F [.op subF [.cst (.int 20), .op lenA [.var 3]]] (.nm 8) (.seq (.set (.nm 9) (.call φ_next_asking [.var 2, .op tupleF [.var 7]])) (
      .seq (.iff (.op neF [.op isNF [.var 9, .cst .non], .op eqF [.var 4, .var 5]]) (.ret (.cst (.bl false))) (.skip)) (
      .iff (.op notNF [.var 9, .cst .non]) (.seq (.app 7 (.var 9)) (
        .seq (.set (.nm 4) (.op addF [.var 4, .cst (.int 1)])) (
        .iff (.op neF [.call φ_asked_rank [.var 2, .op tupleF [.var 7]], .var 4]) (.ret (.cst (.bl false))) (.skip)))) (.skip))))
def s_law : S := .seq (.setO 1 (.mk lstF [.var 0, .cst (.int 0), .cst (.int 5582), .cst (.int 0)])) (
    .seq (.set (.nm 2) (.op addF [.cst (.int 1), .callO φ__law_taken 1 [.cst (.int 5)]])) (
    .seq (.set (.nm 3) (lc_law_1)) (
    .seq (.par 4 5 (.call φ_asked_rank [.var 2, .op tupleF [.var 3]]) (.op fdivZF [.op mulWF [.var 2, .op addF [.var 2, .cst (.int 1)]], .cst (.int 2)])) (
    .seq (.iff (.op gtG [.var 4, .op min2F [.op lenA [.var 3], .var 5]]) (.ret (.cst (.bl false))) (.skip)) (
    .seq (.iff (.op neF [.call φ_asked_rank [.var 2, .op tupleF [.op revLF [.var 3]]], .var 4]) (.ret (.cst (.bl false))) (.skip)) (
    .seq (.iff (.op neF [.call φ_asked_rank [.var 2, .op (sl2 slF) [.op tupleF [.op addF [.var 3, .var 3]], .cst (.int 20)]], .var 4]) (.ret (.cst (.bl false))) (.skip)) (
    .seq (.iff (.op neF [.call φ_asked_rank [.var 2, .op tupleF [lc_law_2]], .var 4]) (.ret (.cst (.bl false))) (.skip)) (
    .seq (.iff (.op neF [.call φ_tells_all [.var 2, .op tupleF [.var 3]], .op eqF [.var 4, .var 5]]) (.ret (.cst (.bl false))) (.skip)) (
    .seq (fl_law_3) (
    .seq (.setO 7 (.op listA [.var 3])) (
    .seq (fl_law_4) (
    .ret (.cst (.bl true))))))))))))))
def φ_law : List D → Option D := runI 1 11 s_law
end Mi
set_option synthInstance.maxHeartbeats 400000
set_option synthInstance.maxSize 1000
namespace Mi.T
open PySem PySem.Spec PyProof.Rows L2 GxR
def t__law_taken (row_ : (List Int) × Int × Int × Int) (many_ : Int) : Option (Int × ((List Int) × Int × Int × Int)) :=
  if (decide (0 < row_.2.2.2)) = true then (
    (ifmod row_.2.2.2 many_).bind fun r1 =>
    (ifdivZ row_.2.2.2 many_).bind fun d2 =>
    (some (row_.1, row_.2.1, row_.2.2.1, d2)).bind fun row3 =>
    some (r1, row3))
  else (
    (some (row_.1, row_.2.1 + 1, row_.2.2.1, row_.2.2.2)).bind fun row4 =>
    if (decide ((row4.1.length : Int) < row4.2.1)) = true then (
      (imulW row4.2.2.1 48271).bind fun m5 =>
      (some (row4.1, row4.2.1, Int.fmod (m5 + 11) 2147483647, row4.2.2.2)).bind fun row6 =>
      (ifmod (Int.fdiv row6.2.2.1 7) many_).bind fun r7 =>
      some (r7, row6))
    else (
      (atI row4.1 (row4.2.1 - 1)).bind fun x8 =>
      (imulW row4.2.2.1 48271).bind fun m10 =>
      (some (row4.1, row4.2.1, Int.fmod ((m10 + x8) + 11) 2147483647, row4.2.2.2)).bind fun row11 =>
      (if (decide (((10 : Int) ^ (18 : Nat)) ≤ x8)) = true then (
        (ifdivZ x8 many_).bind fun d13 =>
        (some (row11.1, row11.2.1, row11.2.2.1, d13)).bind fun row14 =>
        some row14)
      else (
        some row11)).bind fun s12 =>
      (ifmod x8 many_).bind fun r15 =>
      some (r15, s12)))
theorem t__law_taken_ok {row_ : (List Int) × Int × Int × Int} {many_ : Int} {r9 : Int × ((List Int) × Int × Int × Int)} (h : t__law_taken row_ many_ = some r9) : φ__law_taken [(h4 eScr eInt eInt eInt) row_, eInt many_] = some (eInt r9.1, (h4 eScr eInt eInt eInt) r9.2) := by
  unfold t__law_taken at h
  unfold φ__law_taken
  show runO _ _ _ _ = _
  unfold s__law_taken
  refine run_O (enc := fun (r9 : Int × ((List Int) × Int × Int × Int)) => eInt r9.1) (es := fun (r9 : Int × ((List Int) × Int × Int × Int)) => (h4 eScr eInt eInt eInt) r9.2) (w := r9) (p := [.ex (.io ((h4 eScr eInt eInt eInt) row_)), .ex (.im (eInt many_)), .ex .un, .ex .un]) rfl ?_ rfl
  refine ifS h (fun k h => ?_) (fun k h => ?_)
  · refine t_sifT (tk (tst_of (ev_op (d := eBl (decide (0 < row_.2.2.2))) (evs_c (ev_op (d := eInt row_.2.2.2) (evs_c (ev_io rfl) (evs_c ev_cst evs_n)) rfl rfl) (evs_c ev_cst evs_n)) rfl rfl) rfl rfl) k) ?_
    refine fin_seqR (P' := fun (_ : Unit) => []) ?_
    refine bnd h fun r1 q_r1 h => ?_
    refine fin_seq (nx_set (ev_op (d := eInt r1) (evs_c (ev_op (d := eInt row_.2.2.2) (evs_c (ev_op (d := eInt row_.2.2.2) (evs_c (ev_io rfl) (evs_c ev_cst evs_n)) rfl rfl) evs_n) rfl rfl) (evs_c (ev_v rfl) evs_n)) rfl (ifmod_ok q_r1)) rfl rfl) ?_
    refine fin_to (p' := [.ex (.io ((h4 eScr eInt eInt eInt) row_)), .ex (.im (eInt many_)), .ex (.im (eInt r1)), .ex .un]) rfl ?_
    refine bnd h fun d2 q_d2 h => ?_
    refine bnd h fun row3 q_row3 h => ?_
    refine fin_seq (nx_subI (o' := (h4 eScr eInt eInt eInt) row3) rfl (evs_c (ev_op (d := eInt d2) (evs_c (ev_op (d := eInt row_.2.2.2) (evs_c (ev_io rfl) (evs_c ev_cst evs_n)) rfl rfl) (evs_c (ev_v rfl) evs_n)) rfl (ifdivZ_ok q_d2)) (evs_c ev_cst evs_n)) rfl rfl (by have e := Option.some.inj q_row3; subst e; rfl)) ?_
    refine fin_to (p' := [.ex (.io ((h4 eScr eInt eInt eInt) row3)), .ex (.im (eInt many_)), .ex (.im (eInt r1)), .ex .un]) rfl ?_
    exact fin_retE (enc := fun (r9 : Int × ((List Int) × Int × Int × Int)) => eInt r9.1) (v := (r1, row3)) (ev_v rfl) rfl rfl h (fun e m => out_O m)
  · refine t_sifF (tk (tst_of (ev_op (d := eBl (decide (0 < row_.2.2.2))) (evs_c (ev_op (d := eInt row_.2.2.2) (evs_c (ev_io rfl) (evs_c ev_cst evs_n)) rfl rfl) (evs_c ev_cst evs_n)) rfl rfl) rfl rfl) k) ?_
    refine fin_skip ?_
    refine bnd h fun row4 q_row4 h => ?_
    refine fin_seq (nx_subI (o' := (h4 eScr eInt eInt eInt) row4) rfl (evs_c (ev_op (d := eInt (row_.2.1 + 1)) (evs_c (ev_op (d := eInt row_.2.1) (evs_c (ev_io rfl) (evs_c ev_cst evs_n)) rfl rfl) (evs_c ev_cst evs_n)) rfl rfl) (evs_c ev_cst evs_n)) rfl rfl (by have e := Option.some.inj q_row4; subst e; rfl)) ?_
    refine fin_to (p' := [.ex (.io ((h4 eScr eInt eInt eInt) row4)), .ex (.im (eInt many_)), .ex .un, .ex .un]) rfl ?_
    refine ifS h (fun k h => ?_) (fun k h => ?_)
    · refine t_sifT (tk (tst_of (ev_op (d := eBl (decide ((row4.1.length : Int) < row4.2.1))) (evs_c (ev_op (d := eInt row4.2.1) (evs_c (ev_io rfl) (evs_c ev_cst evs_n)) rfl rfl) (evs_c (ev_op (d := eInt (row4.1.length : Int)) (evs_c (ev_op (d := eScr row4.1) (evs_c (ev_io rfl) (evs_c ev_cst evs_n)) rfl rfl) evs_n) rfl rfl) evs_n)) rfl rfl) rfl rfl) k) ?_
      refine fin_seqR (P' := fun (_ : Unit) => []) ?_
      refine bnd h fun m5 q_m5 h => ?_
      refine bnd h fun row6 q_row6 h => ?_
      refine fin_seq (nx_subI (o' := (h4 eScr eInt eInt eInt) row6) rfl (evs_c (ev_op (d := eInt (Int.fmod (m5 + 11) 2147483647)) (evs_c (ev_op (d := eInt (m5 + 11)) (evs_c (ev_op (d := eInt (m5 + 11)) (evs_c (ev_op (d := eInt m5) (evs_c (ev_op (d := eInt row4.2.2.1) (evs_c (ev_io rfl) (evs_c ev_cst evs_n)) rfl rfl) (evs_c ev_cst evs_n)) rfl (imulW_ok q_m5)) (evs_c ev_cst evs_n)) rfl rfl) evs_n) rfl rfl) (evs_c ev_cst evs_n)) rfl (fmod_r (by decide))) (evs_c ev_cst evs_n)) rfl rfl (by have e := Option.some.inj q_row6; subst e; rfl)) ?_
      refine fin_to (p' := [.ex (.io ((h4 eScr eInt eInt eInt) row6)), .ex (.im (eInt many_)), .ex .un, .ex .un]) rfl ?_
      refine bnd h fun r7 q_r7 h => ?_
      exact fin_retE (enc := fun (r9 : Int × ((List Int) × Int × Int × Int)) => eInt r9.1) (v := (r7, row6)) (ev_op (d := eInt r7) (evs_c (ev_op (d := eInt (Int.fdiv row6.2.2.1 7)) (evs_c (ev_op (d := eInt (Int.fdiv row6.2.2.1 7)) (evs_c (ev_op (d := eInt row6.2.2.1) (evs_c (ev_io rfl) (evs_c ev_cst evs_n)) rfl rfl) (evs_c ev_cst evs_n)) rfl (fdivZ_r (by decide))) evs_n) rfl rfl) (evs_c (ev_v rfl) evs_n)) rfl (ifmod_ok q_r7)) rfl rfl h (fun e m => out_O m)
    · refine t_sifF (tk (tst_of (ev_op (d := eBl (decide ((row4.1.length : Int) < row4.2.1))) (evs_c (ev_op (d := eInt row4.2.1) (evs_c (ev_io rfl) (evs_c ev_cst evs_n)) rfl rfl) (evs_c (ev_op (d := eInt (row4.1.length : Int)) (evs_c (ev_op (d := eScr row4.1) (evs_c (ev_io rfl) (evs_c ev_cst evs_n)) rfl rfl) evs_n) rfl rfl) evs_n)) rfl rfl) rfl rfl) k) ?_
      refine fin_skip ?_
      refine bnd h fun x8 q_x8 h => ?_
      refine fin_seq (nx_set (ev_op (d := eInt x8) (evs_c (ev_op (d := eScr row4.1) (evs_c (ev_io rfl) (evs_c ev_cst evs_n)) rfl rfl) (evs_c (ev_op (d := eInt (row4.2.1 - 1)) (evs_c (ev_op (d := eInt row4.2.1) (evs_c (ev_io rfl) (evs_c ev_cst evs_n)) rfl rfl) (evs_c ev_cst evs_n)) rfl rfl) evs_n)) rfl (ix_scr q_x8)) rfl rfl) ?_
      refine fin_to (p' := [.ex (.io ((h4 eScr eInt eInt eInt) row4)), .ex (.im (eInt many_)), .ex .un, .ex (.im (eInt x8))]) rfl ?_
      refine bnd h fun m10 q_m10 h => ?_
      refine bnd h fun row11 q_row11 h => ?_
      refine fin_seq (nx_subI (o' := (h4 eScr eInt eInt eInt) row11) rfl (evs_c (ev_op (d := eInt (Int.fmod ((m10 + x8) + 11) 2147483647)) (evs_c (ev_op (d := eInt ((m10 + x8) + 11)) (evs_c (ev_op (d := eInt ((m10 + x8) + 11)) (evs_c (ev_op (d := eInt (m10 + x8)) (evs_c (ev_op (d := eInt m10) (evs_c (ev_op (d := eInt row4.2.2.1) (evs_c (ev_io rfl) (evs_c ev_cst evs_n)) rfl rfl) (evs_c ev_cst evs_n)) rfl (imulW_ok q_m10)) (evs_c (ev_v rfl) evs_n)) rfl rfl) (evs_c ev_cst evs_n)) rfl rfl) evs_n) rfl rfl) (evs_c ev_cst evs_n)) rfl (fmod_r (by decide))) (evs_c ev_cst evs_n)) rfl rfl (by have e := Option.some.inj q_row11; subst e; rfl)) ?_
      refine fin_to (p' := [.ex (.io ((h4 eScr eInt eInt eInt) row11)), .ex (.im (eInt many_)), .ex .un, .ex (.im (eInt x8))]) rfl ?_
      refine bnd h fun s12 q_s12 h => ?_
      refine fin_seqJ (st := s12) (P' := fun (s12 : (List Int) × Int × Int × Int) => [.ex (.io ((h4 eScr eInt eInt eInt) s12)), .ex (.im (eInt many_)), .ex .un, .ex (.im (eInt x8))]) ?_ ?_
      · refine ifS q_s12 (fun k h => ?_) (fun k h => ?_)
        · refine t_ifT (tk (tst_of (ev_op (d := eBl (decide (((10 : Int) ^ (18 : Nat)) ≤ x8))) (evs_c (ev_v rfl) (evs_c (ev_op (d := eInt ((10 : Int) ^ (18 : Nat))) (evs_c ev_cst (evs_c ev_cst evs_n)) rfl rfl) evs_n)) rfl rfl) rfl rfl) k) ?_
          refine bnd h fun d13 q_d13 h => ?_
          refine bnd h fun row14 q_row14 h => ?_
          exact fin_nxE [0, 0, 0, 0] (v := row14) (nx_subI (o' := (h4 eScr eInt eInt eInt) row14) rfl (evs_c (ev_op (d := eInt d13) (evs_c (ev_v rfl) (evs_c (ev_v rfl) evs_n)) rfl (ifdivZ_ok q_d13)) (evs_c ev_cst evs_n)) rfl rfl (by have e := Option.some.inj q_row14; subst e; rfl)) rfl rfl h
        · refine t_ifF (tk (tst_of (ev_op (d := eBl (decide (((10 : Int) ^ (18 : Nat)) ≤ x8))) (evs_c (ev_v rfl) (evs_c (ev_op (d := eInt ((10 : Int) ^ (18 : Nat))) (evs_c ev_cst (evs_c ev_cst evs_n)) rfl rfl) evs_n)) rfl rfl) rfl rfl) k) ?_
          exact fin_nxE [0, 0, 0, 0] (v := row11) nx_skip rfl rfl h
      · refine bnd h fun r15 q_r15 h => ?_
        exact fin_retE (enc := fun (r9 : Int × ((List Int) × Int × Int × Int)) => eInt r9.1) (v := (r15, s12)) (ev_op (d := eInt r15) (evs_c (ev_op (d := eInt x8) (evs_c (ev_v rfl) evs_n) rfl rfl) (evs_c (ev_v rfl) evs_n)) rfl (ifmod_ok q_r15)) rfl rfl h (fun e m => out_O m)
def t__law_pick_s (row_ : (List Int) × Int × Int × Int) (things_ : List Nat) : Option ((List Nat) × ((List Int) × Int × Int × Int)) :=
  (slen things_).bind fun n1 =>
  (t__law_taken row_ n1).bind fun w2 =>
  (sat things_ w2.1).bind fun x3 =>
  some (x3, w2.2)
theorem t__law_pick_s_ok {row_ : (List Int) × Int × Int × Int} {things_ : List Nat} {r9 : (List Nat) × ((List Int) × Int × Int × Int)} (h : t__law_pick_s row_ things_ = some r9) : φ__law_pick [(h4 eScr eInt eInt eInt) row_, eStr things_] = some (eStr r9.1, (h4 eScr eInt eInt eInt) r9.2) := by
  unfold t__law_pick_s at h
  unfold φ__law_pick
  show runO _ _ _ _ = _
  unfold s__law_pick
  refine run_O (enc := fun (r9 : (List Nat) × ((List Int) × Int × Int × Int)) => eStr r9.1) (es := fun (r9 : (List Nat) × ((List Int) × Int × Int × Int)) => (h4 eScr eInt eInt eInt) r9.2) (w := r9) (p := [.ex (.io ((h4 eScr eInt eInt eInt) row_)), .ex (.im (eStr things_))]) rfl ?_ rfl
  refine bnd h fun n1 q_n1 h => ?_
  refine bnd h fun w2 q_w2 h => ?_
  refine bnd h fun x3 q_x3 h => ?_
  exact fin_retE (enc := fun (r9 : (List Nat) × ((List Int) × Int × Int × Int)) => eStr r9.1) (v := (x3, w2.2)) (ev_op (d := eStr x3) (evs_c (ev_v rfl) (evs_c (ev_callOi (d := eInt w2.1) (d1 := (h4 eScr eInt eInt eInt) w2.2) rfl (evs_c (ev_op (d := eInt n1) (evs_c (ev_v rfl) evs_n) rfl (slen_ok q_n1)) evs_n) rfl rfl (t__law_taken_ok q_w2)) evs_n)) rfl (sat_ok q_x3)) rfl rfl h (fun e m => out_O m)
def t__law_pick_Li (row_ : (List Int) × Int × Int × Int) (things_ : List Int) : Option (Int × ((List Int) × Int × Int × Int)) :=
  (t__law_taken row_ (things_.length : Int)).bind fun w1 =>
  (atI things_ w1.1).bind fun x2 =>
  some (x2, w1.2)
theorem t__law_pick_Li_ok {row_ : (List Int) × Int × Int × Int} {things_ : List Int} {r9 : Int × ((List Int) × Int × Int × Int)} (h : t__law_pick_Li row_ things_ = some r9) : φ__law_pick [(h4 eScr eInt eInt eInt) row_, (eLst eInt) things_] = some (eInt r9.1, (h4 eScr eInt eInt eInt) r9.2) := by
  unfold t__law_pick_Li at h
  unfold φ__law_pick
  show runO _ _ _ _ = _
  unfold s__law_pick
  refine run_O (enc := fun (r9 : Int × ((List Int) × Int × Int × Int)) => eInt r9.1) (es := fun (r9 : Int × ((List Int) × Int × Int × Int)) => (h4 eScr eInt eInt eInt) r9.2) (w := r9) (p := [.ex (.io ((h4 eScr eInt eInt eInt) row_)), .ex (.im ((eLst eInt) things_))]) rfl ?_ rfl
  refine bnd h fun w1 q_w1 h => ?_
  refine bnd h fun x2 q_x2 h => ?_
  exact fin_retE (enc := fun (r9 : Int × ((List Int) × Int × Int × Int)) => eInt r9.1) (v := (x2, w1.2)) (ev_op (d := eInt x2) (evs_c (ev_v rfl) (evs_c (ev_callOi (d := eInt w1.1) (d1 := (h4 eScr eInt eInt eInt) w1.2) rfl (evs_c (ev_op (d := eInt (things_.length : Int)) (evs_c (ev_v rfl) evs_n) rfl len_lst) evs_n) rfl rfl (t__law_taken_ok q_w1)) evs_n)) rfl (ix_lst q_x2)) rfl rfl h (fun e m => out_O m)
def t__law_steps (row_ : (List Int) × Int × Int × Int) : Option ((List Nat) × ((List Int) × Int × Int × Int)) :=
  (t__law_pick_s row_ [117, 100]).bind fun w1 =>
  (t__law_taken w1.2 9).bind fun w2 =>
  (trange1 w2.1).bind fun r3 =>
  (fld (fun (b5 : Int) (s4 : ((List Int) × Int × Int × Int) × (List Nat) × (List Nat)) =>
      (t__law_taken s4.1 9).bind fun w6 =>
      (t__law_pick_Li w6.2 [0, 1, w6.1]).bind fun w7 =>
      (rep s4.2.1 (1 + w7.1)).bind fun s8 =>
      (scat s4.2.2 s8).bind fun s10 =>
      (some (if (s4.2.1 == [117]) = true then [100] else [117])).bind fun letter11 =>
      some (w7.2, letter11, s10)) r3 (w2.2, w1.1, [])).bind fun s12 =>
  some (s12.2.2, s12.1)
theorem t__law_steps_ok {row_ : (List Int) × Int × Int × Int} {r9 : (List Nat) × ((List Int) × Int × Int × Int)} (h : t__law_steps row_ = some r9) : φ__law_steps [(h4 eScr eInt eInt eInt) row_] = some (eStr r9.1, (h4 eScr eInt eInt eInt) r9.2) := by
  unfold t__law_steps at h
  unfold φ__law_steps
  show runO _ _ _ _ = _
  unfold s__law_steps
  refine run_O (enc := fun (r9 : (List Nat) × ((List Int) × Int × Int × Int)) => eStr r9.1) (es := fun (r9 : (List Nat) × ((List Int) × Int × Int × Int)) => (h4 eScr eInt eInt eInt) r9.2) (w := r9) (p := [.ex (.io ((h4 eScr eInt eInt eInt) row_)), .ex .un, .ex .un, .ex .un]) rfl ?_ rfl
  refine bnd h fun w1 q_w1 h => ?_
  refine fin_seq (nx_par (evs_c (ev_callOi (d := eStr w1.1) (d1 := (h4 eScr eInt eInt eInt) w1.2) rfl (evs_c ev_cst evs_n) rfl rfl (t__law_pick_s_ok q_w1)) (evs_c ev_cst evs_n)) rfl rfl) ?_
  refine fin_to (p' := [.ex (.io ((h4 eScr eInt eInt eInt) w1.2)), .ex (.im (eStr w1.1)), .ex (.im (eStr [])), .ex .un]) rfl ?_
  refine bnd h fun w2 q_w2 h => ?_
  refine bnd h fun r3 q_r3 h => ?_
  refine bnd h fun s12 q_s12 h => ?_
  refine fin_seq (st_for (I := eInt) (P := fun (s4 : ((List Int) × Int × Int × Int) × (List Nat) × (List Nat)) => [.ex (.io ((h4 eScr eInt eInt eInt) s4.1)), .ex (.im (eStr s4.2.1)), .ex (.im (eStr s4.2.2)), .soft]) (st := (w2.2, w1.1, [])) (it_of (g := range1F) (evs_c (ev_callOi (d := eInt w2.1) (d1 := (h4 eScr eInt eInt eInt) w2.2) rfl (evs_c ev_cst evs_n) rfl rfl (t__law_taken_ok q_w2)) evs_n) rfl (trange1_ok q_r3)) [0, 0, 0, 2] rfl rfl (fun b5 s4 st9 h => by
      refine ⟨_, rfl, ?_⟩
      refine fin_to (p' := [.ex (.io ((h4 eScr eInt eInt eInt) s4.1)), .ex (.im (eStr s4.2.1)), .ex (.im (eStr s4.2.2)), .ex (.im (eInt b5))]) rfl ?_
      refine bnd h fun w6 q_w6 h => ?_
      refine bnd h fun w7 q_w7 h => ?_
      refine bnd h fun s8 q_s8 h => ?_
      refine bnd h fun s10 q_s10 h => ?_
      refine fin_seq (nx_set (ev_op (d := eStr s10) (evs_c (ev_v rfl) (evs_c (ev_op (d := eStr s8) (evs_c (ev_v rfl) (evs_c (ev_op (d := eInt (1 + w7.1)) (evs_c ev_cst (evs_c (ev_callOi (d := eInt w7.1) (d1 := (h4 eScr eInt eInt eInt) w7.2) rfl (evs_c (ev_mk (d := (eLst eInt) [0, 1, w6.1]) (evs_c ev_cst (evs_c ev_cst (evs_c (ev_callOi (d := eInt w6.1) (d1 := (h4 eScr eInt eInt eInt) w6.2) rfl (evs_c ev_cst evs_n) rfl rfl (t__law_taken_ok q_w6)) evs_n))) rfl rfl) evs_n) rfl rfl (t__law_pick_Li_ok q_w7)) evs_n)) rfl rfl) evs_n)) rfl (rep_ok q_s8)) evs_n)) rfl (scat_ok q_s10)) rfl rfl) ?_
      refine fin_to (p' := [.ex (.io ((h4 eScr eInt eInt eInt) w7.2)), .ex (.im (eStr s4.2.1)), .ex (.im (eStr s10)), .ex (.im (eInt b5))]) rfl ?_
      refine bnd h fun letter11 q_letter11 h => ?_
      exact fin_nxE [0, 0, 0, 2] (v := (w7.2, letter11, s10)) (nx_set (ev_eq (enc := eStr) (t_iteP (enc := eStr) (u := [100]) (v := [117]) (tst_of (ev_op (d := eBl (s4.2.1 == [117])) (evs_c (ev_v rfl) (evs_c ev_cst evs_n)) rfl (eq_sc eqe_str (x := s4.2.1) (y := [117]) rfl)) rfl rfl) (fun _ => ev_cst) (fun _ => ev_cst)) q_letter11) rfl rfl) rfl rfl h) q_s12) ?_
  refine fin_to (p' := [.ex (.io ((h4 eScr eInt eInt eInt) s12.1)), .ex (.im (eStr s12.2.1)), .ex (.im (eStr s12.2.2)), .soft]) rfl ?_
  exact fin_retE (enc := fun (r9 : (List Nat) × ((List Int) × Int × Int × Int)) => eStr r9.1) (v := (s12.2.2, s12.1)) (ev_v rfl) rfl rfl h (fun e m => out_O m)
def t_is_in (value_ : Int) (least_ : Int) (most_ : Int) : Option (Bool) :=
  some (true && ((!false) && ((decide (least_ ≤ value_)) && (decide (value_ ≤ most_)))))
theorem t_is_in_ok {value_ : Int} {least_ : Int} {most_ : Int} {r9 : Bool} (h : t_is_in value_ least_ most_ = some r9) : φ_is_in [eInt value_, eInt least_, eInt most_] = some (eBl r9) := by
  unfold t_is_in at h
  unfold φ_is_in
  show runI _ _ _ _ = _
  unfold s_is_in
  refine run_I (p := [.ex (.im (eInt value_)), .ex (.im (eInt least_)), .ex (.im (eInt most_))]) rfl ?_ rfl
  exact fin_retE (enc := eBl) (v := true && ((!false) && ((decide (least_ ≤ value_)) && (decide (value_ ≤ most_))))) (ev_andB (ev_op (d := eBl true) (evs_c (ev_v rfl) evs_n) rfl rfl) (fun _ => (ev_andB (not_tst (tst_of (ev_op (d := eBl false) (evs_c (ev_v rfl) evs_n) rfl rfl) rfl rfl)) (fun _ => (ev_chain (a := decide (least_ ≤ value_)) (b := decide (value_ ≤ most_)) (ev_v rfl) (ev_v rfl) rfl rfl (fun _ => (ev_v rfl)) rfl (fun _ => rfl)))))) rfl rfl h (fun _ _ => trivial)
def t_need_span (span_ : Int) : Option (Unit) :=
  (t_is_in span_ 1 9).bind fun c1 =>
  if (!c1) = true then (
    none)
  else (
    some ())
theorem t_need_span_ok {span_ : Int} {r9 : Unit} (h : t_need_span span_ = some r9) : φ_need_span [eInt span_] = some (eNo r9) := by
  unfold t_need_span at h
  unfold φ_need_span
  show runI _ _ _ _ = _
  unfold s_need_span
  refine run_In (p := [.ex (.im (eInt span_))]) (p' := [.any]) rfl ?_ rfl
  refine bnd h fun c1 q_c1 h => ?_
  refine ifS h (fun k h => ?_) (fun k h => ?_)
  · cases h
  · refine t_ifF (tk (tst_of (not_tst (tst_of (ev_call (d := eBl c1) (evs_c (ev_v rfl) (evs_c ev_cst (evs_c ev_cst evs_n))) rfl (t_is_in_ok q_c1)) rfl rfl)) rfl rfl) k) ?_
    exact fin_nx [1] nx_skip rfl rfl
def t_is_input (value_ : List Nat) : Option (Bool) :=
  (if (!true) = true then some true else ((slen value_).bind fun n1 => some (decide (200 < n1)))).bind fun b2 =>
  if b2 = true then (
    some false)
  else (
    some (value_.all (fun c => decide (c ∈ ((⟨#[117, 100]⟩ : Str)).cps.toList))))
theorem t_is_input_ok {value_ : List Nat} {r9 : Bool} (h : t_is_input value_ = some r9) : φ_is_input [eStr value_] = some (eBl r9) := by
  unfold t_is_input at h
  unfold φ_is_input
  show runI _ _ _ _ = _
  unfold s_is_input
  refine run_I (p := [.ex (.im (eStr value_))]) rfl ?_ rfl
  refine bnd h fun b2 q_b2 h => ?_
  refine ifS h (fun k h => ?_) (fun k h => ?_)
  · refine t_sifT (tk (tst_orM (tst_of (not_tst (tst_of (ev_op (d := eBl true) (evs_c (ev_v rfl) evs_n) rfl rfl) rfl rfl)) rfl rfl) q_b2 (fun _ h => by
      refine bnd h fun n1 q_n1 h => ?_
      exact tst_eq (tst_of (ev_op (d := eBl (decide (200 < n1))) (evs_c (ev_op (d := eInt n1) (evs_c (ev_v rfl) evs_n) rfl (slen_ok q_n1)) (evs_c ev_cst evs_n)) rfl rfl) rfl rfl) h)) k) ?_
    refine fin_seqR (P' := fun (_ : Unit) => []) ?_
    exact fin_retE (enc := eBl) (v := false) ev_cst rfl rfl h (fun _ _ => trivial)
  · refine t_sifF (tk (tst_orM (tst_of (not_tst (tst_of (ev_op (d := eBl true) (evs_c (ev_v rfl) evs_n) rfl rfl) rfl rfl)) rfl rfl) q_b2 (fun _ h => by
      refine bnd h fun n1 q_n1 h => ?_
      exact tst_eq (tst_of (ev_op (d := eBl (decide (200 < n1))) (evs_c (ev_op (d := eInt n1) (evs_c (ev_v rfl) evs_n) rfl (slen_ok q_n1)) (evs_c ev_cst evs_n)) rfl rfl) rfl rfl) h)) k) ?_
    refine fin_skip ?_
    exact fin_retE (enc := eBl) (v := value_.all (fun c => decide (c ∈ ((⟨#[117, 100]⟩ : Str)).cps.toList))) (ev_op (d := eBl (value_.all (fun c => decide (c ∈ ((⟨#[117, 100]⟩ : Str)).cps.toList)))) (evs_c (ev_v rfl) evs_n) rfl rfl) rfl rfl h (fun _ _ => trivial)
def t_need_asked (span_ : Int) (some_ : List (List Nat)) : Option (Unit) :=
  (t_need_span span_).bind fun c1 =>
  if ((!true) || (decide (20 < (some_.length : Int)))) = true then (
    none)
  else (
    (fld (fun (b3 : Int × (List Nat)) (s2 : Unit) =>
        (t_is_input b3.2).bind fun c4 =>
        if (!c4) = true then (
          none)
        else (
          some ())) (enumI 0 some_) ()).bind fun s5 =>
    some ())
theorem t_need_asked_ok {span_ : Int} {some_ : List (List Nat)} {r9 : Unit} (h : t_need_asked span_ some_ = some r9) : φ_need_asked [eInt span_, (eTup eStr) some_] = some (eNo r9) := by
  unfold t_need_asked at h
  unfold φ_need_asked
  show runI _ _ _ _ = _
  unfold s_need_asked
  refine run_In (p := [.ex (.im (eInt span_)), .ex (.im ((eTup eStr) some_)), .ex .un, .ex .un]) (p' := [.any, .any, .any, .any]) rfl ?_ rfl
  refine bnd h fun c1 q_c1 h => ?_
  refine fin_seq (nx_exp (ev_call (d := eNo c1) (evs_c (ev_v rfl) evs_n) rfl (t_need_span_ok q_c1))) ?_
  refine fin_to (p' := [.ex (.im (eInt span_)), .ex (.im ((eTup eStr) some_)), .ex .un, .ex .un]) rfl ?_
  refine ifS h (fun k h => ?_) (fun k h => ?_)
  · cases h
  · refine t_sifF (tk (tst_or (tst_of (not_tst (tst_of (ev_op (d := eBl true) (evs_c (ev_v rfl) evs_n) rfl rfl) rfl rfl)) rfl rfl) (fun _ => (tst_of (ev_op (d := eBl (decide (20 < (some_.length : Int)))) (evs_c (ev_op (d := eInt (some_.length : Int)) (evs_c (ev_v rfl) evs_n) rfl len_tup) (evs_c ev_cst evs_n)) rfl rfl) rfl rfl))) k) ?_
    refine fin_skip ?_
    refine bnd h fun s5 q_s5 h => ?_
    exact fin_nx [1, 1, 1, 1] (st_for (I := (e2 eInt eStr)) (P := fun (s2 : Unit) => [.ex (.im (eInt span_)), .ex (.im ((eTup eStr) some_)), .soft, .soft]) (st := ()) (it_of (g := enumF) (evs_c (ev_v rfl) evs_n) rfl en_tup) [0, 0, 2, 2] rfl rfl (fun b3 s2 st9 h => by
        refine ⟨_, rfl, ?_⟩
        refine fin_to (p' := [.ex (.im (eInt span_)), .ex (.im ((eTup eStr) some_)), .ex (.im (eInt b3.1)), .ex (.im (eStr b3.2))]) rfl ?_
        refine bnd h fun c4 q_c4 h => ?_
        refine ifS h (fun k h => ?_) (fun k h => ?_)
        · cases h
        · refine t_ifF (tk (tst_of (not_tst (tst_of (ev_call (d := eBl c4) (evs_c (ev_v rfl) evs_n) rfl (t_is_input_ok q_c4)) rfl rfl)) rfl rfl) k) ?_
          exact fin_nxE [0, 0, 2, 2] (v := ()) nx_skip rfl rfl h) q_s5) rfl rfl
def t_step (memory_ : List Nat) (letter_ : List Nat) : Option (List Nat) :=
  (some (if (letter_ == [117]) = true then ([48], [49]) else ([49], [48]))).bind fun v1 =>
  (srfind memory_ v1.1).bind fun n2 =>
  (if (decide (n2 < 0)) = true then (some memory_) else ((scut memory_ none (some n2)).bind fun s3 => (scat s3 v1.2).bind fun s4 => (scut memory_ (some (n2 + 1)) none).bind fun s5 => (scat s4 s5).bind fun s6 => some s6)).bind fun c7 =>
  some c7
theorem t_step_ok {memory_ : List Nat} {letter_ : List Nat} {r9 : List Nat} (h : t_step memory_ letter_ = some r9) : φ_step [eStr memory_, eStr letter_] = some (eStr r9) := by
  unfold t_step at h
  unfold φ_step
  show runI _ _ _ _ = _
  unfold s_step
  refine run_I (p := [.ex (.im (eStr memory_)), .ex (.im (eStr letter_)), .ex .un, .ex .un, .ex .un]) rfl ?_ rfl
  refine bnd h fun v1 q_v1 h => ?_
  refine fin_seq (nx_set (ev_eq (enc := (e2 eStr eStr)) (t_iteP (enc := (e2 eStr eStr)) (u := ([48], [49])) (v := ([49], [48])) (tst_of (ev_op (d := eBl (letter_ == [117])) (evs_c (ev_v rfl) (evs_c ev_cst evs_n)) rfl (eq_sc eqe_str (x := letter_) (y := [117]) rfl)) rfl rfl) (fun _ => (ev_mk (d := (e2 eStr eStr) ([48], [49])) (evs_c ev_cst (evs_c ev_cst evs_n)) rfl rfl)) (fun _ => (ev_mk (d := (e2 eStr eStr) ([49], [48])) (evs_c ev_cst (evs_c ev_cst evs_n)) rfl rfl))) q_v1) rfl rfl) ?_
  refine fin_to (p' := [.ex (.im (eStr memory_)), .ex (.im (eStr letter_)), .ex (.im (eStr v1.1)), .ex (.im (eStr v1.2)), .ex .un]) rfl ?_
  refine bnd h fun n2 q_n2 h => ?_
  refine fin_seq (nx_set (ev_op (d := eInt n2) (evs_c (ev_v rfl) (evs_c (ev_v rfl) evs_n)) rfl (srfind_ok q_n2)) rfl rfl) ?_
  refine fin_to (p' := [.ex (.im (eStr memory_)), .ex (.im (eStr letter_)), .ex (.im (eStr v1.1)), .ex (.im (eStr v1.2)), .ex (.im (eInt n2))]) rfl ?_
  refine bnd h fun c7 q_c7 h => ?_
  exact fin_retE (enc := eStr) (v := c7) (t_ite (r2 := .pers (eStr c7)) (tst_of (ev_op (d := eBl (decide (n2 < 0))) (evs_c (ev_v rfl) (evs_c ev_cst evs_n)) rfl rfl) rfl rfl) (fun k => by
    have h := ifT q_c7 k
    exact ev_eq (enc := eStr) (ev_v rfl) h) (fun k => by
    have h := ifF q_c7 k
    refine bnd h fun s3 q_s3 h => ?_
    refine bnd h fun s4 q_s4 h => ?_
    refine bnd h fun s5 q_s5 h => ?_
    refine bnd h fun s6 q_s6 h => ?_
    exact ev_eq (enc := eStr) (ev_op (d := eStr s6) (evs_c (ev_op (d := eStr s4) (evs_c (ev_op (d := eStr s3) (evs_c (ev_v rfl) (evs_c (ev_v rfl) evs_n)) rfl (scut_ok q_s3)) (evs_c (ev_v rfl) evs_n)) rfl (scat_ok q_s4)) (evs_c (ev_op (d := eStr s5) (evs_c (ev_v rfl) (evs_c (ev_op (d := eInt (n2 + 1)) (evs_c (ev_v rfl) (evs_c ev_cst evs_n)) rfl rfl) evs_n)) rfl (scut_ok q_s5)) evs_n)) rfl (scat_ok q_s6)) h)) rfl rfl h (fun _ _ => trivial)
def t_behind (memory_ : List Nat) (steps_ : List Nat) : Option (List Nat) :=
  (fld (fun (b2 : List Nat) (s1 : List Nat) =>
      (t_step s1 b2).bind fun c3 =>
      some c3) (chars steps_) memory_).bind fun s4 =>
  some s4
theorem t_behind_ok {memory_ : List Nat} {steps_ : List Nat} {r9 : List Nat} (h : t_behind memory_ steps_ = some r9) : φ_behind [eStr memory_, eStr steps_] = some (eStr r9) := by
  unfold t_behind at h
  unfold φ_behind
  show runI _ _ _ _ = _
  unfold s_behind
  refine run_I (p := [.ex (.im (eStr memory_)), .ex (.im (eStr steps_)), .ex .un]) rfl ?_ rfl
  refine bnd h fun s4 q_s4 h => ?_
  refine fin_seq (st_for (I := eStr) (P := fun (s1 : List Nat) => [.ex (.im (eStr s1)), .ex (.im (eStr steps_)), .soft]) (st := memory_) (it_of (g := itemsF) (evs_c (ev_v rfl) evs_n) rfl it_str) [0, 0, 2] rfl rfl (fun b2 s1 st9 h => by
      refine ⟨_, rfl, ?_⟩
      refine fin_to (p' := [.ex (.im (eStr s1)), .ex (.im (eStr steps_)), .ex (.im (eStr b2))]) rfl ?_
      refine bnd h fun c3 q_c3 h => ?_
      exact fin_nxE [0, 0, 2] (v := c3) (nx_set (ev_call (d := eStr c3) (evs_c (ev_v rfl) (evs_c (ev_v rfl) evs_n)) rfl (t_step_ok q_c3)) rfl rfl) rfl rfl h) q_s4) ?_
  refine fin_to (p' := [.ex (.im (eStr s4)), .ex (.im (eStr steps_)), .soft]) rfl ?_
  exact fin_retE (enc := eStr) (v := s4) (ev_v rfl) rfl rfl h (fun _ _ => trivial)
def t_all_relays (span_ : Int) : Option (List (Int × Int)) :=
  (trange2 1 (span_ + 1)).bind fun r1 =>
  (tcmp (fun (b2 : Int) => (trange1 b2).bind fun r3 => cmp (fun (b4 : Int) => some [(b2, b4)]) r3) r1).bind fun l6 =>
  some l6
theorem t_all_relays_ok {span_ : Int} {r9 : List (Int × Int)} (h : t_all_relays span_ = some r9) : φ_all_relays [eInt span_] = some ((eLst (e2 eInt eInt)) r9) := by
  unfold t_all_relays at h
  unfold φ_all_relays
  show runI _ _ _ _ = _
  unfold s_all_relays
  refine run_I (p := [.ex (.im (eInt span_)), .ex .un, .ex .un]) rfl ?_ rfl
  refine bnd h fun r1 q_r1 h => ?_
  refine bnd h fun l6 q_l6 h => ?_
  exact fin_retE (enc := (eLst (e2 eInt eInt))) (v := l6) (ev_lc2U (I := eInt) (O := (e2 eInt eInt)) (pw := [.ex (.im (eInt span_)), .ex .un, .ex .un]) (it_of (g := range2F) (evs_c ev_cst (evs_c (ev_op (d := eInt (span_ + 1)) (evs_c (ev_v rfl) (evs_c ev_cst evs_n)) rfl rfl) evs_n)) rfl (trange2_ok q_r1)) rfl rfl rfl (fun b2 ys h => by
        refine bnd h fun r3 q_r3 h => ?_
        exact turn2K (I := eInt) (O := (e2 eInt eInt)) (pw := [.ex (.im (eInt span_)), .ex (.im (eInt b2)), .ex .un]) rfl evt_n (it_of (g := range1F) (evs_c (ev_v rfl) evs_n) rfl (trange1_ok q_r3)) rfl rfl (fun b4 ys h => by
            cases h
            exact turnK (d1 := (e2 eInt eInt) (b2, b4)) rfl evt_n (ev_mk (d := (e2 eInt eInt) (b2, b4)) (evs_c (ev_v rfl) (evs_c (ev_v rfl) evs_n)) rfl rfl) rfl rfl) h rfl) q_l6 rfl) rfl rfl h (fun _ _ => trivial)
def t_place (memory_ : List Nat) (sign_ : List Nat) (number_ : Int) : Option (Int) :=
  (tfil (fun (b1 : Int × (List Nat)) => b1.2 == sign_) (fun (b1 : Int × (List Nat)) => b1.1) (enumI 0 (chars memory_))).bind fun l2 =>
  (if (decide (number_ ≤ (l2.length : Int))) = true then ((atI l2 (number_ - 1)).bind fun x3 => some x3) else ((slen memory_).bind fun n4 => some n4)).bind fun c5 =>
  some c5
theorem t_place_ok {memory_ : List Nat} {sign_ : List Nat} {number_ : Int} {r9 : Int} (h : t_place memory_ sign_ number_ = some r9) : φ_place [eStr memory_, eStr sign_, eInt number_] = some (eInt r9) := by
  unfold t_place at h
  unfold φ_place
  show runI _ _ _ _ = _
  unfold s_place
  refine run_I (p := [.ex (.im (eStr memory_)), .ex (.im (eStr sign_)), .ex (.im (eInt number_)), .ex .un, .ex .un, .ex .un]) rfl ?_ rfl
  refine bnd h fun l2 q_l2 h => ?_
  refine fin_seq (nx_set (ev_lcF (c := fun (b1 : Int × (List Nat)) => b1.2 == sign_) (I := (e2 eInt eStr)) (O := eInt) (pw := [.ex (.im (eStr memory_)), .ex (.im (eStr sign_)), .ex (.im (eInt number_)), .ex .un, .ex .un, .ex .un]) (it_of (g := enumF) (evs_c (ev_v rfl) evs_n) rfl en_str) rfl rfl (fun b1 k => turnK rfl (evt_t (tk (tst_of (ev_op (d := eBl (b1.2 == sign_)) (evs_c (ev_v rfl) (evs_c (ev_v rfl) evs_n)) rfl (eq_sc eqe_str (x := b1.2) (y := sign_) rfl)) rfl rfl) k)) (ev_v rfl) rfl rfl) (fun b1 k => turnD rfl (evt_t (tk (tst_of (ev_op (d := eBl (b1.2 == sign_)) (evs_c (ev_v rfl) (evs_c (ev_v rfl) evs_n)) rfl (eq_sc eqe_str (x := b1.2) (y := sign_) rfl)) rfl rfl) k)) rfl) q_l2 rfl) rfl rfl) ?_
  refine fin_to (p' := [.ex (.im (eStr memory_)), .ex (.im (eStr sign_)), .ex (.im (eInt number_)), .ex (.im ((eLst eInt) l2)), .ex .un, .ex .un]) rfl ?_
  refine bnd h fun c5 q_c5 h => ?_
  exact fin_retE (enc := eInt) (v := c5) (t_ite (r2 := .pers (eInt c5)) (tst_of (ev_op (d := eBl (decide (number_ ≤ (l2.length : Int)))) (evs_c (ev_v rfl) (evs_c (ev_op (d := eInt (l2.length : Int)) (evs_c (ev_v rfl) evs_n) rfl len_lst) evs_n)) rfl rfl) rfl rfl) (fun k => by
    have h := ifT q_c5 k
    refine bnd h fun x3 q_x3 h => ?_
    exact ev_eq (enc := eInt) (ev_op (d := eInt x3) (evs_c (ev_v rfl) (evs_c (ev_op (d := eInt (number_ - 1)) (evs_c (ev_v rfl) (evs_c ev_cst evs_n)) rfl rfl) evs_n)) rfl (ix_lst q_x3)) h) (fun k => by
    have h := ifF q_c5 k
    refine bnd h fun n4 q_n4 h => ?_
    exact ev_eq (enc := eInt) (ev_op (d := eInt n4) (evs_c (ev_v rfl) evs_n) rfl (slen_ok q_n4)) h)) rfl rfl h (fun _ _ => trivial)
def t_holds (memory_ : List Nat) (relay_ : Int × Int) : Option (Bool) :=
  (t_place memory_ [49] (relay_.2 + 1)).bind fun c1 =>
  (slen memory_).bind fun n2 =>
  (t_place memory_ [48] ((n2 - relay_.1) + 1)).bind fun c3 =>
  some (decide (c1 < c3))
theorem t_holds_ok {memory_ : List Nat} {relay_ : Int × Int} {r9 : Bool} (h : t_holds memory_ relay_ = some r9) : φ_holds [eStr memory_, (e2 eInt eInt) relay_] = some (eBl r9) := by
  unfold t_holds at h
  unfold φ_holds
  show runI _ _ _ _ = _
  unfold s_holds
  refine run_I (p := [.ex (.im (eStr memory_)), .ex (.im ((e2 eInt eInt) relay_)), .ex .un, .ex .un]) rfl ?_ rfl
  refine fin_seq (nx_set (ev_v rfl) rfl rfl) ?_
  refine fin_to (p' := [.ex (.im (eStr memory_)), .ex (.im ((e2 eInt eInt) relay_)), .ex (.im (eInt relay_.1)), .ex (.im (eInt relay_.2))]) rfl ?_
  refine bnd h fun c1 q_c1 h => ?_
  refine bnd h fun n2 q_n2 h => ?_
  refine bnd h fun c3 q_c3 h => ?_
  exact fin_retE (enc := eBl) (v := decide (c1 < c3)) (ev_op (d := eBl (decide (c1 < c3))) (evs_c (ev_call (d := eInt c1) (evs_c (ev_v rfl) (evs_c ev_cst (evs_c (ev_op (d := eInt (relay_.2 + 1)) (evs_c (ev_v rfl) (evs_c ev_cst evs_n)) rfl rfl) evs_n))) rfl (t_place_ok q_c1)) (evs_c (ev_call (d := eInt c3) (evs_c (ev_v rfl) (evs_c ev_cst (evs_c (ev_op (d := eInt ((n2 - relay_.1) + 1)) (evs_c (ev_op (d := eInt (n2 - relay_.1)) (evs_c (ev_op (d := eInt n2) (evs_c (ev_v rfl) evs_n) rfl (slen_ok q_n2)) (evs_c (ev_v rfl) evs_n)) rfl rfl) (evs_c ev_cst evs_n)) rfl rfl) evs_n))) rfl (t_place_ok q_c3)) evs_n)) rfl rfl) rfl rfl h (fun _ _ => trivial)
def t_row_of (span_ : Int) (steps_ : List Nat) : Option (List Int) :=
  (rep [48] span_).bind fun s1 =>
  (t_behind s1 steps_).bind fun c2 =>
  (t_all_relays span_).bind fun c3 =>
  (tcmp (fun (b4 : Int × Int) => (t_holds c2 b4).bind fun c5 => some [(if c5 = true then 1 else 0)]) c3).bind fun l6 =>
  some l6
theorem t_row_of_ok {span_ : Int} {steps_ : List Nat} {r9 : List Int} (h : t_row_of span_ steps_ = some r9) : φ_row_of [eInt span_, eStr steps_] = some ((eLst eInt) r9) := by
  unfold t_row_of at h
  unfold φ_row_of
  show runI _ _ _ _ = _
  unfold s_row_of
  refine run_I (p := [.ex (.im (eInt span_)), .ex (.im (eStr steps_)), .ex .un, .ex .un]) rfl ?_ rfl
  refine bnd h fun s1 q_s1 h => ?_
  refine bnd h fun c2 q_c2 h => ?_
  refine fin_seq (nx_set (ev_call (d := eStr c2) (evs_c (ev_op (d := eStr s1) (evs_c ev_cst (evs_c (ev_v rfl) evs_n)) rfl (rep_ok q_s1)) (evs_c (ev_v rfl) evs_n)) rfl (t_behind_ok q_c2)) rfl rfl) ?_
  refine fin_to (p' := [.ex (.im (eInt span_)), .ex (.im (eStr steps_)), .ex (.im (eStr c2)), .ex .un]) rfl ?_
  refine bnd h fun c3 q_c3 h => ?_
  refine bnd h fun l6 q_l6 h => ?_
  exact fin_retE (enc := (eLst eInt)) (v := l6) (ev_lcU (I := (e2 eInt eInt)) (O := eInt) (pw := [.ex (.im (eInt span_)), .ex (.im (eStr steps_)), .ex (.im (eStr c2)), .ex .un]) (it_of (g := itemsF) (evs_c (ev_call (d := (eLst (e2 eInt eInt)) c3) (evs_c (ev_v rfl) evs_n) rfl (t_all_relays_ok q_c3)) evs_n) rfl it_lst) rfl rfl (fun b4 ys h => by
        refine bnd h fun c5 q_c5 h => ?_
        cases h
        exact turnK (d1 := eInt (if c5 = true then 1 else 0)) rfl evt_n (ev_op (d := eInt (if c5 = true then 1 else 0)) (evs_c (ev_call (d := eBl c5) (evs_c (ev_v rfl) (evs_c (ev_v rfl) evs_n)) rfl (t_holds_ok q_c5)) evs_n) rfl rfl) rfl rfl) q_l6 rfl) rfl rfl h (fun _ _ => trivial)
def t_lead (row_ : List (Int × Int)) : Option (Option Int) :=
  (fldR (fun (b2 : Int × (Int × Int)) (s1 : Unit) =>
      if (!(b2.2.1 == 0)) = true then (
        some (.ret (some b2.1)))
      else (
        some (.nxt ()))) (enumI 0 row_) ()).bind fun c3 =>
  ctl c3 (fun (s4 : Unit) =>
    some (none : Option Int)) (fun r => some r)
theorem t_lead_ok {row_ : List (Int × Int)} {r9 : Option Int} (h : t_lead row_ = some r9) : φ_lead [(eLst (e2 eInt eInt)) row_] = some ((eOp eInt) r9) := by
  unfold t_lead at h
  unfold φ_lead
  show runI _ _ _ _ = _
  unfold s_lead
  refine run_I (p := [.ex (.im ((eLst (e2 eInt eInt)) row_)), .ex .un, .ex .un]) rfl ?_ rfl
  refine bnd h fun c3 q_c3 h => ?_
  cases c3 with
  | nxt s4 =>
    refine fin_seqJ (st := s4) (P' := fun (s1 : Unit) => [.ex (.im ((eLst (e2 eInt eInt)) row_)), .soft, .soft]) ?_ ?_
    · exact st_forR (I := (e2 eInt (e2 eInt eInt))) (P := fun (s1 : Unit) => [.ex (.im ((eLst (e2 eInt eInt)) row_)), .soft, .soft]) (st := ()) (it_of (g := enumF) (evs_c (ev_v rfl) evs_n) rfl en_lst) [0, 2, 2] rfl rfl (fun b2 s1 c9 h => by
          refine ⟨_, rfl, ?_⟩
          refine fin_to (p' := [.ex (.im ((eLst (e2 eInt eInt)) row_)), .ex (.im (eInt b2.1)), .ex (.im ((e2 eInt eInt) b2.2))]) rfl ?_
          refine ifS h (fun k h => ?_) (fun k h => ?_)
          · refine t_ifT (tk (tst_of (ev_op (d := eBl (!(b2.2.1 == 0))) (evs_c (ev_op (d := eInt b2.2.1) (evs_c (ev_v rfl) (evs_c ev_cst evs_n)) rfl rfl) (evs_c ev_cst evs_n)) rfl (ne_sc eqe_int (x := b2.2.1) (y := 0) rfl)) rfl rfl) k) ?_
            cases h
            exact fin_retE (enc := (eOp eInt)) (v := (some b2.1)) (ev_some (e := eInt) (y := b2.1) (ev_v rfl)) rfl rfl rfl (fun _ _ => trivial)
          · refine t_ifF (tk (tst_of (ev_op (d := eBl (!(b2.2.1 == 0))) (evs_c (ev_op (d := eInt b2.2.1) (evs_c (ev_v rfl) (evs_c ev_cst evs_n)) rfl rfl) (evs_c ev_cst evs_n)) rfl (ne_sc eqe_int (x := b2.2.1) (y := 0) rfl)) rfl rfl) k) ?_
            cases h
            exact fin_nx [0, 2, 2] nx_skip rfl rfl) q_c3
    · exact fin_retE (enc := (eOp eInt)) (v := (none : Option Int)) ev_cst rfl rfl h (fun _ _ => trivial)
  | brk s4 => exact (fldR_nobrk q_c3).elim
  | ret r =>
    have e9 := Option.some.inj h
    subst e9
    exact fin_seqR (P' := fun (s1 : Unit) => [.ex (.im ((eLst (e2 eInt eInt)) row_)), .soft, .soft]) (st_forR (I := (e2 eInt (e2 eInt eInt))) (P := fun (s1 : Unit) => [.ex (.im ((eLst (e2 eInt eInt)) row_)), .soft, .soft]) (st := ()) (it_of (g := enumF) (evs_c (ev_v rfl) evs_n) rfl en_lst) [0, 2, 2] rfl rfl (fun b2 s1 c9 h => by
        refine ⟨_, rfl, ?_⟩
        refine fin_to (p' := [.ex (.im ((eLst (e2 eInt eInt)) row_)), .ex (.im (eInt b2.1)), .ex (.im ((e2 eInt eInt) b2.2))]) rfl ?_
        refine ifS h (fun k h => ?_) (fun k h => ?_)
        · refine t_ifT (tk (tst_of (ev_op (d := eBl (!(b2.2.1 == 0))) (evs_c (ev_op (d := eInt b2.2.1) (evs_c (ev_v rfl) (evs_c ev_cst evs_n)) rfl rfl) (evs_c ev_cst evs_n)) rfl (ne_sc eqe_int (x := b2.2.1) (y := 0) rfl)) rfl rfl) k) ?_
          cases h
          exact fin_retE (enc := (eOp eInt)) (v := (some b2.1)) (ev_some (e := eInt) (y := b2.1) (ev_v rfl)) rfl rfl rfl (fun _ _ => trivial)
        · refine t_ifF (tk (tst_of (ev_op (d := eBl (!(b2.2.1 == 0))) (evs_c (ev_op (d := eInt b2.2.1) (evs_c (ev_v rfl) (evs_c ev_cst evs_n)) rfl rfl) (evs_c ev_cst evs_n)) rfl (ne_sc eqe_int (x := b2.2.1) (y := 0) rfl)) rfl rfl) k) ?_
          cases h
          exact fin_nx [0, 2, 2] nx_skip rfl rfl) q_c3)
def t_ratio (top_ : Int) (bottom_ : Int) : Option (Int × Int) :=
  (some (if (decide (0 < bottom_)) = true then igcd top_ bottom_ else 0 - (igcd top_ bottom_))).bind fun common1 =>
  (ifdivZ top_ common1).bind fun d2 =>
  (ifdivZ bottom_ common1).bind fun d3 =>
  some (d2, d3)
theorem t_ratio_ok {top_ : Int} {bottom_ : Int} {r9 : Int × Int} (h : t_ratio top_ bottom_ = some r9) : φ_ratio [eInt top_, eInt bottom_] = some ((e2 eInt eInt) r9) := by
  unfold t_ratio at h
  unfold φ_ratio
  show runI _ _ _ _ = _
  unfold s_ratio
  refine run_I (p := [.ex (.im (eInt top_)), .ex (.im (eInt bottom_)), .ex .un]) rfl ?_ rfl
  refine bnd h fun common1 q_common1 h => ?_
  refine fin_seq (nx_set (ev_eq (enc := eInt) (t_iteP (enc := eInt) (u := igcd top_ bottom_) (v := 0 - (igcd top_ bottom_)) (tst_of (ev_op (d := eBl (decide (0 < bottom_))) (evs_c (ev_v rfl) (evs_c ev_cst evs_n)) rfl rfl) rfl rfl) (fun _ => (ev_op (d := eInt (igcd top_ bottom_)) (evs_c (ev_v rfl) (evs_c (ev_v rfl) evs_n)) rfl rfl)) (fun _ => (ev_op (d := eInt (0 - (igcd top_ bottom_))) (evs_c ev_cst (evs_c (ev_op (d := eInt (igcd top_ bottom_)) (evs_c (ev_v rfl) (evs_c (ev_v rfl) evs_n)) rfl rfl) evs_n)) rfl rfl))) q_common1) rfl rfl) ?_
  refine fin_to (p' := [.ex (.im (eInt top_)), .ex (.im (eInt bottom_)), .ex (.im (eInt common1))]) rfl ?_
  refine bnd h fun d2 q_d2 h => ?_
  refine bnd h fun d3 q_d3 h => ?_
  exact fin_retE (enc := (e2 eInt eInt)) (v := (d2, d3)) (ev_mk (d := (e2 eInt eInt) (d2, d3)) (evs_c (ev_op (d := eInt d2) (evs_c (ev_v rfl) (evs_c (ev_v rfl) evs_n)) rfl (ifdivZ_ok q_d2)) (evs_c (ev_op (d := eInt d3) (evs_c (ev_v rfl) (evs_c (ev_v rfl) evs_n)) rfl (ifdivZ_ok q_d3)) evs_n)) rfl rfl) rfl rfl h (fun _ _ => trivial)
def t_over (one_ : Int × Int) (other_ : Int × Int) : Option (Int × Int) :=
  (imulW one_.1 other_.2).bind fun m1 =>
  (imulW one_.2 other_.1).bind fun m2 =>
  (t_ratio m1 m2).bind fun c3 =>
  some c3
theorem t_over_ok {one_ : Int × Int} {other_ : Int × Int} {r9 : Int × Int} (h : t_over one_ other_ = some r9) : φ_over [(e2 eInt eInt) one_, (e2 eInt eInt) other_] = some ((e2 eInt eInt) r9) := by
  unfold t_over at h
  unfold φ_over
  show runI _ _ _ _ = _
  unfold s_over
  refine run_I (p := [.ex (.im ((e2 eInt eInt) one_)), .ex (.im ((e2 eInt eInt) other_))]) rfl ?_ rfl
  refine bnd h fun m1 q_m1 h => ?_
  refine bnd h fun m2 q_m2 h => ?_
  refine bnd h fun c3 q_c3 h => ?_
  exact fin_retE (enc := (e2 eInt eInt)) (v := c3) (ev_call (d := (e2 eInt eInt) c3) (evs_c (ev_op (d := eInt m1) (evs_c (ev_op (d := eInt one_.1) (evs_c (ev_v rfl) (evs_c ev_cst evs_n)) rfl rfl) (evs_c (ev_op (d := eInt other_.2) (evs_c (ev_v rfl) (evs_c ev_cst evs_n)) rfl rfl) evs_n)) rfl (imulW_ok q_m1)) (evs_c (ev_op (d := eInt m2) (evs_c (ev_op (d := eInt one_.2) (evs_c (ev_v rfl) (evs_c ev_cst evs_n)) rfl rfl) (evs_c (ev_op (d := eInt other_.1) (evs_c (ev_v rfl) (evs_c ev_cst evs_n)) rfl rfl) evs_n)) rfl (imulW_ok q_m2)) evs_n)) rfl (t_ratio_ok q_c3)) rfl rfl h (fun _ _ => trivial)
def t_by (one_ : Int × Int) (other_ : Int × Int) : Option (Int × Int) :=
  (imulW one_.1 other_.1).bind fun m1 =>
  (imulW one_.2 other_.2).bind fun m2 =>
  (t_ratio m1 m2).bind fun c3 =>
  some c3
theorem t_by_ok {one_ : Int × Int} {other_ : Int × Int} {r9 : Int × Int} (h : t_by one_ other_ = some r9) : φ_by [(e2 eInt eInt) one_, (e2 eInt eInt) other_] = some ((e2 eInt eInt) r9) := by
  unfold t_by at h
  unfold φ_by
  show runI _ _ _ _ = _
  unfold s_by
  refine run_I (p := [.ex (.im ((e2 eInt eInt) one_)), .ex (.im ((e2 eInt eInt) other_))]) rfl ?_ rfl
  refine bnd h fun m1 q_m1 h => ?_
  refine bnd h fun m2 q_m2 h => ?_
  refine bnd h fun c3 q_c3 h => ?_
  exact fin_retE (enc := (e2 eInt eInt)) (v := c3) (ev_call (d := (e2 eInt eInt) c3) (evs_c (ev_op (d := eInt m1) (evs_c (ev_op (d := eInt one_.1) (evs_c (ev_v rfl) (evs_c ev_cst evs_n)) rfl rfl) (evs_c (ev_op (d := eInt other_.1) (evs_c (ev_v rfl) (evs_c ev_cst evs_n)) rfl rfl) evs_n)) rfl (imulW_ok q_m1)) (evs_c (ev_op (d := eInt m2) (evs_c (ev_op (d := eInt one_.2) (evs_c (ev_v rfl) (evs_c ev_cst evs_n)) rfl rfl) (evs_c (ev_op (d := eInt other_.2) (evs_c (ev_v rfl) (evs_c ev_cst evs_n)) rfl rfl) evs_n)) rfl (imulW_ok q_m2)) evs_n)) rfl (t_ratio_ok q_c3)) rfl rfl h (fun _ _ => trivial)
def t_minus (one_ : Int × Int) (other_ : Int × Int) : Option (Int × Int) :=
  (imulW one_.1 other_.2).bind fun m1 =>
  (imulW other_.1 one_.2).bind fun m2 =>
  (imulW one_.2 other_.2).bind fun m3 =>
  (t_ratio (m1 - m2) m3).bind fun c4 =>
  some c4
theorem t_minus_ok {one_ : Int × Int} {other_ : Int × Int} {r9 : Int × Int} (h : t_minus one_ other_ = some r9) : φ_minus [(e2 eInt eInt) one_, (e2 eInt eInt) other_] = some ((e2 eInt eInt) r9) := by
  unfold t_minus at h
  unfold φ_minus
  show runI _ _ _ _ = _
  unfold s_minus
  refine run_I (p := [.ex (.im ((e2 eInt eInt) one_)), .ex (.im ((e2 eInt eInt) other_))]) rfl ?_ rfl
  refine bnd h fun m1 q_m1 h => ?_
  refine bnd h fun m2 q_m2 h => ?_
  refine bnd h fun m3 q_m3 h => ?_
  refine bnd h fun c4 q_c4 h => ?_
  exact fin_retE (enc := (e2 eInt eInt)) (v := c4) (ev_call (d := (e2 eInt eInt) c4) (evs_c (ev_op (d := eInt (m1 - m2)) (evs_c (ev_op (d := eInt m1) (evs_c (ev_op (d := eInt one_.1) (evs_c (ev_v rfl) (evs_c ev_cst evs_n)) rfl rfl) (evs_c (ev_op (d := eInt other_.2) (evs_c (ev_v rfl) (evs_c ev_cst evs_n)) rfl rfl) evs_n)) rfl (imulW_ok q_m1)) (evs_c (ev_op (d := eInt m2) (evs_c (ev_op (d := eInt other_.1) (evs_c (ev_v rfl) (evs_c ev_cst evs_n)) rfl rfl) (evs_c (ev_op (d := eInt one_.2) (evs_c (ev_v rfl) (evs_c ev_cst evs_n)) rfl rfl) evs_n)) rfl (imulW_ok q_m2)) evs_n)) rfl rfl) (evs_c (ev_op (d := eInt m3) (evs_c (ev_op (d := eInt one_.2) (evs_c (ev_v rfl) (evs_c ev_cst evs_n)) rfl rfl) (evs_c (ev_op (d := eInt other_.2) (evs_c (ev_v rfl) (evs_c ev_cst evs_n)) rfl rfl) evs_n)) rfl (imulW_ok q_m3)) evs_n)) rfl (t_ratio_ok q_c4)) rfl rfl h (fun _ _ => trivial)
def t_reduced_by_o (rows_ : List (List (Int × Int))) (row_ : List (Int × Int)) : Option ((List (Int × Int)) × (List (List (Int × Int)))) :=
  (fld (fun (b2 : List (Int × Int)) (s1 : List (Int × Int)) =>
      (t_lead b2).bind fun c3 =>
      (c3).bind fun u4 =>
      (atI s1 u4).bind fun x5 =>
      if (!(x5.1 == 0)) = true then (
        (c3).bind fun u6 =>
        (atI s1 u6).bind fun x7 =>
        (c3).bind fun u8 =>
        (atI b2 u8).bind fun x10 =>
        (t_over x7 x10).bind fun c11 =>
        (tcmp (fun (b12 : (Int × Int) × (Int × Int)) => (t_by c11 b12.2).bind fun c13 => (t_minus b12.1 c13).bind fun c14 => some [c14]) (List.zip s1 b2)).bind fun l15 =>
        some l15)
      else (
        some s1)) rows_ row_).bind fun s16 =>
  some (s16, rows_)
theorem t_reduced_by_o_ok {rows_ : List (List (Int × Int))} {row_ : List (Int × Int)} {r9 : (List (Int × Int)) × (List (List (Int × Int)))} (h : t_reduced_by_o rows_ row_ = some r9) : φ_reduced_by_o [(eLst (eLst (e2 eInt eInt))) rows_, (eLst (e2 eInt eInt)) row_] = some ((eLst (e2 eInt eInt)) r9.1, (eLst (eLst (e2 eInt eInt))) r9.2) := by
  unfold t_reduced_by_o at h
  unfold φ_reduced_by_o
  show runO _ _ _ _ = _
  unfold s_reduced_by_o
  refine run_O (enc := fun (r9 : (List (Int × Int)) × (List (List (Int × Int)))) => (eLst (e2 eInt eInt)) r9.1) (es := fun (r9 : (List (Int × Int)) × (List (List (Int × Int)))) => (eLst (eLst (e2 eInt eInt))) r9.2) (w := r9) (p := [.ex (.io ((eLst (eLst (e2 eInt eInt))) rows_)), .ex (.im ((eLst (e2 eInt eInt)) row_)), .ex .un, .ex .un, .ex .un, .ex .un, .ex .un]) rfl ?_ rfl
  refine bnd h fun s16 q_s16 h => ?_
  refine fin_seq (nx_forV (hh := lstF1) rfl (st_for (I := (eLst (e2 eInt eInt))) (P := fun (s1 : List (Int × Int)) => [.ex (.fr ((eLst (eLst (e2 eInt eInt))) rows_)), .ex (.im ((eLst (e2 eInt eInt)) s1)), .soft, .soft, .soft, .ex .un, .ex .un]) (st := row_) (it_of (g := fun _ => lstF1 ((eLst (eLst (e2 eInt eInt))) rows_)) evs_n rfl lstF1_ok) [0, 0, 2, 2, 2, 0, 0] rfl rfl (fun b2 s1 st9 h => by
      refine ⟨_, rfl, ?_⟩
      refine fin_to (p' := [.ex (.fr ((eLst (eLst (e2 eInt eInt))) rows_)), .ex (.im ((eLst (e2 eInt eInt)) s1)), .ex (.im ((eLst (e2 eInt eInt)) b2)), .soft, .soft, .ex .un, .ex .un]) rfl ?_
      refine bnd h fun c3 q_c3 h => ?_
      refine fin_seq (nx_set (ev_call (d := (eOp eInt) c3) (evs_c (ev_v rfl) evs_n) rfl (t_lead_ok q_c3)) rfl rfl) ?_
      refine fin_to (p' := [.ex (.fr ((eLst (eLst (e2 eInt eInt))) rows_)), .ex (.im ((eLst (e2 eInt eInt)) s1)), .ex (.im ((eLst (e2 eInt eInt)) b2)), .ex (.im ((eOp eInt) c3)), .soft, .ex .un, .ex .un]) rfl ?_
      refine bnd h fun u4 q_u4 h => ?_
      refine bnd h fun x5 q_x5 h => ?_
      refine ifS h (fun k h => ?_) (fun k h => ?_)
      · refine t_ifT (tk (tst_of (ev_op (d := eBl (!(x5.1 == 0))) (evs_c (ev_op (d := eInt x5.1) (evs_c (ev_op (d := (e2 eInt eInt) x5) (evs_c (ev_v rfl) (evs_c (ev_opt (e := eInt) (ev_v rfl) q_u4) evs_n)) rfl (ix_lst q_x5)) (evs_c ev_cst evs_n)) rfl rfl) (evs_c ev_cst evs_n)) rfl (ne_sc eqe_int (x := x5.1) (y := 0) rfl)) rfl rfl) k) ?_
        refine bnd h fun u6 q_u6 h => ?_
        refine bnd h fun x7 q_x7 h => ?_
        refine bnd h fun u8 q_u8 h => ?_
        refine bnd h fun x10 q_x10 h => ?_
        refine bnd h fun c11 q_c11 h => ?_
        refine fin_seq (nx_set (ev_call (d := (e2 eInt eInt) c11) (evs_c (ev_op (d := (e2 eInt eInt) x7) (evs_c (ev_v rfl) (evs_c (ev_opt (e := eInt) (ev_v rfl) q_u6) evs_n)) rfl (ix_lst q_x7)) (evs_c (ev_op (d := (e2 eInt eInt) x10) (evs_c (ev_v rfl) (evs_c (ev_opt (e := eInt) (ev_v rfl) q_u8) evs_n)) rfl (ix_lst q_x10)) evs_n)) rfl (t_over_ok q_c11)) rfl rfl) ?_
        refine fin_to (p' := [.ex (.fr ((eLst (eLst (e2 eInt eInt))) rows_)), .ex (.im ((eLst (e2 eInt eInt)) s1)), .ex (.im ((eLst (e2 eInt eInt)) b2)), .ex (.im ((eOp eInt) c3)), .ex (.im ((e2 eInt eInt) c11)), .ex .un, .ex .un]) rfl ?_
        refine bnd h fun l15 q_l15 h => ?_
        exact fin_nxE [0, 0, 2, 2, 2, 0, 0] (v := l15) (nx_set (ev_lcU (I := (e2 (e2 eInt eInt) (e2 eInt eInt))) (O := (e2 eInt eInt)) (pw := [.ex (.fr ((eLst (eLst (e2 eInt eInt))) rows_)), .ex (.im ((eLst (e2 eInt eInt)) s1)), .ex (.im ((eLst (e2 eInt eInt)) b2)), .ex (.im ((eOp eInt) c3)), .ex (.im ((e2 eInt eInt) c11)), .ex .un, .ex .un]) (it_of (g := zip2F) (evs_c (ev_v rfl) (evs_c (ev_v rfl) evs_n)) rfl (zp src_lst src_lst)) rfl rfl (fun b12 ys h => by
              refine bnd h fun c13 q_c13 h => ?_
              refine bnd h fun c14 q_c14 h => ?_
              cases h
              exact turnK (d1 := (e2 eInt eInt) c14) rfl evt_n (ev_call (d := (e2 eInt eInt) c14) (evs_c (ev_v rfl) (evs_c (ev_call (d := (e2 eInt eInt) c13) (evs_c (ev_v rfl) (evs_c (ev_v rfl) evs_n)) rfl (t_by_ok q_c13)) evs_n)) rfl (t_minus_ok q_c14)) rfl rfl) q_l15 rfl) rfl rfl) rfl rfl h
      · refine t_ifF (tk (tst_of (ev_op (d := eBl (!(x5.1 == 0))) (evs_c (ev_op (d := eInt x5.1) (evs_c (ev_op (d := (e2 eInt eInt) x5) (evs_c (ev_v rfl) (evs_c (ev_opt (e := eInt) (ev_v rfl) q_u4) evs_n)) rfl (ix_lst q_x5)) (evs_c ev_cst evs_n)) rfl rfl) (evs_c ev_cst evs_n)) rfl (ne_sc eqe_int (x := x5.1) (y := 0) rfl)) rfl rfl) k) ?_
        exact fin_nxE [0, 0, 2, 2, 0, 0, 0] (v := s1) nx_skip rfl rfl h) q_s16)) ?_
  refine fin_to (p' := [.ex (.io ((eLst (eLst (e2 eInt eInt))) rows_)), .ex (.im ((eLst (e2 eInt eInt)) s16)), .soft, .soft, .soft, .ex .un, .ex .un]) rfl ?_
  exact fin_retE (enc := fun (r9 : (List (Int × Int)) × (List (List (Int × Int)))) => (eLst (e2 eInt eInt)) r9.1) (v := (s16, rows_)) (ev_v rfl) rfl rfl h (fun e m => out_O m)
def t_basis_of (span_ : Int) (some_ : List (List Nat)) : Option (List (List (Int × Int))) :=
  (some ([] : List (List (Int × Int)))).bind fun found1 =>
  (fld (fun (b3 : List Nat) (s2 : List (List (Int × Int))) =>
      (t_row_of span_ b3).bind fun c4 =>
      (tmap (fun (b5 : Int) => (b5, 1)) c4).bind fun l6 =>
      (t_reduced_by_o s2 l6).bind fun w7 =>
      (t_lead w7.1).bind fun c8 =>
      if c8.isSome = true then (
        (tapp w7.2 w7.1).bind fun found10 =>
        some found10)
      else (
        some w7.2)) some_ found1).bind fun s11 =>
  some s11
theorem t_basis_of_ok {span_ : Int} {some_ : List (List Nat)} {r9 : List (List (Int × Int))} (h : t_basis_of span_ some_ = some r9) : φ_basis_of [eInt span_, (eTup eStr) some_] = some ((eLst (eLst (e2 eInt eInt))) r9) := by
  unfold t_basis_of at h
  unfold φ_basis_of
  show runI _ _ _ _ = _
  unfold s_basis_of
  refine run_I (p := [.ex (.im (eInt span_)), .ex (.im ((eTup eStr) some_)), .ex .un, .ex .un, .ex .un, .ex .un]) rfl ?_ rfl
  refine bnd h fun found1 q_found1 h => ?_
  refine fin_seq (nx_setO (ev_eq (enc := (eLst (eLst (e2 eInt eInt)))) (ev_mk (d := (eLst (eLst (e2 eInt eInt))) ([] : List (List (Int × Int)))) evs_n rfl rfl) q_found1) rfl) ?_
  refine fin_to (p' := [.ex (.im (eInt span_)), .ex (.im ((eTup eStr) some_)), .ex (.ow ((eLst (eLst (e2 eInt eInt))) found1)), .ex .un, .ex .un, .ex .un]) rfl ?_
  refine bnd h fun s11 q_s11 h => ?_
  refine fin_seq (st_for (I := eStr) (P := fun (s2 : List (List (Int × Int))) => [.ex (.im (eInt span_)), .ex (.im ((eTup eStr) some_)), .ex (.ow ((eLst (eLst (e2 eInt eInt))) s2)), .soft, .soft, .ex .un]) (st := found1) (it_of (g := itemsF) (evs_c (ev_v rfl) evs_n) rfl it_tup) [0, 0, 0, 2, 2, 0] rfl rfl (fun b3 s2 st9 h => by
      refine ⟨_, rfl, ?_⟩
      refine fin_to (p' := [.ex (.im (eInt span_)), .ex (.im ((eTup eStr) some_)), .ex (.ow ((eLst (eLst (e2 eInt eInt))) s2)), .ex (.im (eStr b3)), .soft, .ex .un]) rfl ?_
      refine bnd h fun c4 q_c4 h => ?_
      refine bnd h fun l6 q_l6 h => ?_
      refine bnd h fun w7 q_w7 h => ?_
      refine fin_seq (nx_set (ev_callOo (d := (eLst (e2 eInt eInt)) w7.1) (d1 := (eLst (eLst (e2 eInt eInt))) w7.2) rfl (evs_c (ev_lcM (I := eInt) (O := (e2 eInt eInt)) (pw := [.ex (.im (eInt span_)), .ex (.im ((eTup eStr) some_)), .ex (.ow ((eLst (eLst (e2 eInt eInt))) s2)), .ex (.im (eStr b3)), .soft, .ex .un]) (it_of (g := itemsF) (evs_c (ev_call (d := (eLst eInt) c4) (evs_c (ev_v rfl) (evs_c (ev_v rfl) evs_n)) rfl (t_row_of_ok q_c4)) evs_n) rfl it_lst) rfl rfl (fun b5 => turnK rfl evt_n (ev_mk (d := (e2 eInt eInt) (b5, 1)) (evs_c (ev_v rfl) (evs_c ev_cst evs_n)) rfl rfl) rfl rfl) q_l6 rfl) evs_n) rfl rfl (t_reduced_by_o_ok q_w7)) rfl rfl) ?_
      refine fin_to (p' := [.ex (.im (eInt span_)), .ex (.im ((eTup eStr) some_)), .ex (.ow ((eLst (eLst (e2 eInt eInt))) w7.2)), .ex (.im (eStr b3)), .ex (.im ((eLst (e2 eInt eInt)) w7.1)), .ex .un]) rfl ?_
      refine bnd h fun c8 q_c8 h => ?_
      refine ifS h (fun k h => ?_) (fun k h => ?_)
      · refine t_ifT (tk (tst_of (ev_op (d := eBl c8.isSome) (evs_c (ev_call (d := (eOp eInt) c8) (evs_c (ev_v rfl) evs_n) rfl (t_lead_ok q_c8)) (evs_c ev_cst evs_n)) rfl (notN_op (fun _ => rfl))) rfl rfl) k) ?_
        refine bnd h fun found10 q_found10 h => ?_
        exact fin_nxE [0, 0, 0, 2, 2, 0] (v := found10) (nx_appT rfl (ev_v rfl) rfl rfl q_found10) rfl rfl h
      · refine t_ifF (tk (tst_of (ev_op (d := eBl c8.isSome) (evs_c (ev_call (d := (eOp eInt) c8) (evs_c (ev_v rfl) evs_n) rfl (t_lead_ok q_c8)) (evs_c ev_cst evs_n)) rfl (notN_op (fun _ => rfl))) rfl rfl) k) ?_
        exact fin_nxE [0, 0, 0, 2, 2, 0] (v := w7.2) nx_skip rfl rfl h) q_s11) ?_
  refine fin_to (p' := [.ex (.im (eInt span_)), .ex (.im ((eTup eStr) some_)), .ex (.ow ((eLst (eLst (e2 eInt eInt))) s11)), .soft, .soft, .ex .un]) rfl ?_
  exact fin_retE (enc := (eLst (eLst (e2 eInt eInt)))) (v := s11) (ev_ow rfl) rfl rfl h (fun _ _ => trivial)
def t_asked_rank (span_ : Int) (some_ : List (List Nat)) : Option (Int) :=
  (t_need_asked span_ some_).bind fun c1 =>
  (t_basis_of span_ some_).bind fun c2 =>
  some (c2.length : Int)
theorem t_asked_rank_ok {span_ : Int} {some_ : List (List Nat)} {r9 : Int} (h : t_asked_rank span_ some_ = some r9) : φ_asked_rank [eInt span_, (eTup eStr) some_] = some (eInt r9) := by
  unfold t_asked_rank at h
  unfold φ_asked_rank
  show runI _ _ _ _ = _
  unfold s_asked_rank
  refine run_I (p := [.ex (.im (eInt span_)), .ex (.im ((eTup eStr) some_))]) rfl ?_ rfl
  refine bnd h fun c1 q_c1 h => ?_
  refine fin_seq (nx_exp (ev_call (d := eNo c1) (evs_c (ev_v rfl) (evs_c (ev_v rfl) evs_n)) rfl (t_need_asked_ok q_c1))) ?_
  refine fin_to (p' := [.ex (.im (eInt span_)), .ex (.im ((eTup eStr) some_))]) rfl ?_
  refine bnd h fun c2 q_c2 h => ?_
  exact fin_retE (enc := eInt) (v := (c2.length : Int)) (ev_op (d := eInt (c2.length : Int)) (evs_c (ev_call (d := (eLst (eLst (e2 eInt eInt))) c2) (evs_c (ev_v rfl) (evs_c (ev_v rfl) evs_n)) rfl (t_basis_of_ok q_c2)) evs_n) rfl len_lst) rfl rfl h (fun _ _ => trivial)
def t_need_input (steps_ : List Nat) : Option (Unit) :=
  (t_is_input steps_).bind fun c1 =>
  if (!c1) = true then (
    none)
  else (
    some ())
theorem t_need_input_ok {steps_ : List Nat} {r9 : Unit} (h : t_need_input steps_ = some r9) : φ_need_input [eStr steps_] = some (eNo r9) := by
  unfold t_need_input at h
  unfold φ_need_input
  show runI _ _ _ _ = _
  unfold s_need_input
  refine run_In (p := [.ex (.im (eStr steps_))]) (p' := [.any]) rfl ?_ rfl
  refine bnd h fun c1 q_c1 h => ?_
  refine ifS h (fun k h => ?_) (fun k h => ?_)
  · cases h
  · refine t_ifF (tk (tst_of (not_tst (tst_of (ev_call (d := eBl c1) (evs_c (ev_v rfl) evs_n) rfl (t_is_input_ok q_c1)) rfl rfl)) rfl rfl) k) ?_
    exact fin_nx [1] nx_skip rfl rfl
def t_settled (span_ : Int) (rows_ : List ((List Nat) × Int)) : Option (List ((List Nat) × Int)) :=
  (whl (fun (s1 : List ((List Nat) × Int)) => some true) (fun (s1 : List ((List Nat) × Int)) =>
      (atI s1 (-1)).bind fun x2 =>
      if (decide (span_ ≤ x2.2)) = true then (
        (atI s1 (-1)).bind fun x3 =>
        some (.ret [(x3.1, span_)]))
      else (
        (if (decide ((s1.length : Int) < 3)) = true then some true else ((atI s1 (-1)).bind fun x4 => (atI s1 (-2)).bind fun x5 => some (decide (x4.2 < x5.2)))).bind fun b6 =>
        if b6 = true then (
          some (.ret s1))
        else (
          (some (cutL s1 (some (-3)) none)).bind fun v7 =>
          (un3 v7).bind fun w8 =>
          if (decide (w8.2.1.2 ≤ w8.1.2)) = true then (
            (lenOk ((cutL s1 none (some (-3))) ++ [(w8.1.1, (w8.1.2 - w8.2.1.2) + w8.2.2.2)])).bind fun l10 =>
            some (.nxt l10))
          else (
            (some [(w8.2.1.1, w8.2.1.2 - w8.1.2), (w8.2.2.1, w8.2.2.2)]).bind fun rows11 =>
            some (.nxt rows11))))) 1000 rows_).bind fun c12 =>
  ctl c12 (fun (s13 : List ((List Nat) × Int)) =>
    none) (fun r => some r)
theorem t_settled_ok {span_ : Int} {rows_ : List ((List Nat) × Int)} {r9 : List ((List Nat) × Int)} (h : t_settled span_ rows_ = some r9) : φ_settled [eInt span_, (eLst (e2 eStr eInt)) rows_] = some ((eLst (e2 eStr eInt)) r9) := by
  unfold t_settled at h
  unfold φ_settled
  show runM _ _ _ _ = _
  unfold s_settled
  refine run_M (ds := [eInt span_]) (d0 := (eLst (e2 eStr eInt)) rows_) (p := [.ex (.im (eInt span_)), .ex (.ow ((eLst (e2 eStr eInt)) rows_)), .ex .un, .ex .un, .ex .un, .ex .un, .ex .un, .ex .un]) rfl ?_ rfl rfl
  refine bnd h fun c12 q_c12 h => ?_
  cases c12 with
  | nxt s13 => cases h
  | brk s13 => exact (whl_nobrk q_c12).elim
  | ret r =>
    have e9 := Option.some.inj h
    subst e9
    exact fin_retP (P' := fun (s1 : List ((List Nat) × Int)) => [.ex (.im (eInt span_)), .ex (.ow ((eLst (e2 eStr eInt)) s1)), .soft, .soft, .soft, .soft, .soft, .soft]) (st_while (P := fun (s1 : List ((List Nat) × Int)) => [.ex (.im (eInt span_)), .ex (.ow ((eLst (e2 eStr eInt)) s1)), .soft, .soft, .soft, .soft, .soft, .soft]) (st := rows_) [0, 0, 2, 2, 2, 2, 2, 2] rfl rfl (fun s1 k h => by
        cases h
        exact evt_t (tst_of ev_cst rfl rfl)) (fun s1 c9 k9 h => by
        refine bnd h fun x2 q_x2 h => ?_
        refine ifS h (fun k h => ?_) (fun k h => ?_)
        · refine t_sifT (tk (tst_of (ev_op (d := eBl (decide (span_ ≤ x2.2))) (evs_c (ev_op (d := eInt x2.2) (evs_c (ev_op (d := (e2 eStr eInt) x2) (evs_c (ev_ow rfl) (evs_c (ev_op (d := eInt (-1)) (evs_c ev_cst evs_n) rfl rfl) evs_n)) rfl (ix_lst q_x2)) (evs_c ev_cst evs_n)) rfl rfl) (evs_c (ev_v rfl) evs_n)) rfl rfl) rfl rfl) k) ?_
          refine bnd h fun x3 q_x3 h => ?_
          cases h
          refine fin_seqR (P' := fun (s1 : List ((List Nat) × Int)) => [.ex (.im (eInt span_)), .ex (.ow ((eLst (e2 eStr eInt)) s1)), .soft, .soft, .soft, .soft, .soft, .soft]) ?_
          exact fin_retOE (enc := (eLst (e2 eStr eInt))) (v := [(x3.1, span_)]) (ev_mk (d := (eLst (e2 eStr eInt)) [(x3.1, span_)]) (evs_c (ev_mk (d := (e2 eStr eInt) (x3.1, span_)) (evs_c (ev_op (d := eStr x3.1) (evs_c (ev_op (d := (e2 eStr eInt) x3) (evs_c (ev_ow rfl) (evs_c (ev_op (d := eInt (-1)) (evs_c ev_cst evs_n) rfl rfl) evs_n)) rfl (ix_lst q_x3)) (evs_c ev_cst evs_n)) rfl rfl) (evs_c (ev_v rfl) evs_n)) rfl rfl) evs_n) rfl rfl) rfl rfl (fun _ _ => trivial)
        · refine t_sifF (tk (tst_of (ev_op (d := eBl (decide (span_ ≤ x2.2))) (evs_c (ev_op (d := eInt x2.2) (evs_c (ev_op (d := (e2 eStr eInt) x2) (evs_c (ev_ow rfl) (evs_c (ev_op (d := eInt (-1)) (evs_c ev_cst evs_n) rfl rfl) evs_n)) rfl (ix_lst q_x2)) (evs_c ev_cst evs_n)) rfl rfl) (evs_c (ev_v rfl) evs_n)) rfl rfl) rfl rfl) k) ?_
          refine fin_skip ?_
          refine bnd h fun b6 q_b6 h => ?_
          refine ifS h (fun k h => ?_) (fun k h => ?_)
          · refine t_sifT (tk (tst_orM (tst_of (ev_op (d := eBl (decide ((s1.length : Int) < 3))) (evs_c (ev_op (d := eInt (s1.length : Int)) (evs_c (ev_ow rfl) evs_n) rfl len_lst) (evs_c ev_cst evs_n)) rfl rfl) rfl rfl) q_b6 (fun _ h => by
              refine bnd h fun x4 q_x4 h => ?_
              refine bnd h fun x5 q_x5 h => ?_
              exact tst_eq (tst_of (ev_op (d := eBl (decide (x4.2 < x5.2))) (evs_c (ev_op (d := eInt x4.2) (evs_c (ev_op (d := (e2 eStr eInt) x4) (evs_c (ev_ow rfl) (evs_c (ev_op (d := eInt (-1)) (evs_c ev_cst evs_n) rfl rfl) evs_n)) rfl (ix_lst q_x4)) (evs_c ev_cst evs_n)) rfl rfl) (evs_c (ev_op (d := eInt x5.2) (evs_c (ev_op (d := (e2 eStr eInt) x5) (evs_c (ev_ow rfl) (evs_c (ev_op (d := eInt (-2)) (evs_c ev_cst evs_n) rfl rfl) evs_n)) rfl (ix_lst q_x5)) (evs_c ev_cst evs_n)) rfl rfl) evs_n)) rfl rfl) rfl rfl) h)) k) ?_
            cases h
            refine fin_seqR (P' := fun (s1 : List ((List Nat) × Int)) => [.ex (.im (eInt span_)), .ex (.ow ((eLst (e2 eStr eInt)) s1)), .soft, .soft, .soft, .soft, .soft, .soft]) ?_
            exact fin_retVE (enc := (eLst (e2 eStr eInt))) (v := s1) rfl rfl rfl (fun _ _ => trivial)
          · refine t_sifF (tk (tst_orM (tst_of (ev_op (d := eBl (decide ((s1.length : Int) < 3))) (evs_c (ev_op (d := eInt (s1.length : Int)) (evs_c (ev_ow rfl) evs_n) rfl len_lst) (evs_c ev_cst evs_n)) rfl rfl) rfl rfl) q_b6 (fun _ h => by
              refine bnd h fun x4 q_x4 h => ?_
              refine bnd h fun x5 q_x5 h => ?_
              exact tst_eq (tst_of (ev_op (d := eBl (decide (x4.2 < x5.2))) (evs_c (ev_op (d := eInt x4.2) (evs_c (ev_op (d := (e2 eStr eInt) x4) (evs_c (ev_ow rfl) (evs_c (ev_op (d := eInt (-1)) (evs_c ev_cst evs_n) rfl rfl) evs_n)) rfl (ix_lst q_x4)) (evs_c ev_cst evs_n)) rfl rfl) (evs_c (ev_op (d := eInt x5.2) (evs_c (ev_op (d := (e2 eStr eInt) x5) (evs_c (ev_ow rfl) (evs_c (ev_op (d := eInt (-2)) (evs_c ev_cst evs_n) rfl rfl) evs_n)) rfl (ix_lst q_x5)) (evs_c ev_cst evs_n)) rfl rfl) evs_n)) rfl rfl) rfl rfl) h)) k) ?_
            refine fin_skip ?_
            refine bnd h fun v7 q_v7 h => ?_
            refine bnd h fun w8 q_w8 h => ?_
            refine fin_seq (nx_set (ev_eq (enc := (eLst (e2 eStr eInt))) (ev_eq (enc := (eLst (e2 eStr eInt))) (ev_op (d := (eLst (e2 eStr eInt)) (cutL s1 (some (-3)) none)) (evs_c (ev_ow rfl) (evs_c (ev_op (d := eInt (-3)) (evs_c ev_cst evs_n) rfl rfl) evs_n)) rfl lcut_ok) q_v7) (un3_ok q_w8)) rfl rfl) ?_
            refine fin_to (p' := [.ex (.im (eInt span_)), .ex (.ow ((eLst (e2 eStr eInt)) s1)), .ex (.im (eStr w8.1.1)), .ex (.im (eInt w8.1.2)), .ex (.im (eStr w8.2.1.1)), .ex (.im (eInt w8.2.1.2)), .ex (.im (eStr w8.2.2.1)), .ex (.im (eInt w8.2.2.2))]) rfl ?_
            refine ifS h (fun k h => ?_) (fun k h => ?_)
            · refine t_ifT (tk (tst_of (ev_op (d := eBl (decide (w8.2.1.2 ≤ w8.1.2))) (evs_c (ev_v rfl) (evs_c (ev_v rfl) evs_n)) rfl rfl) rfl rfl) k) ?_
              refine bnd h fun l10 q_l10 h => ?_
              cases h
              exact fin_nx [0, 0, 2, 2, 2, 2, 2, 2] (nx_setO (ev_dspT (d := (eLst (e2 eStr eInt)) l10) (evd_s (ev_op (d := (eLst (e2 eStr eInt)) (cutL s1 none (some (-3)))) (evs_c (ev_ow rfl) (evs_c (ev_op (d := eInt (-3)) (evs_c ev_cst evs_n) rfl rfl) evs_n)) rfl lcut_ok) rfl rfl (evd_c (ev_mk (d := (e2 eStr eInt) (w8.1.1, (w8.1.2 - w8.2.1.2) + w8.2.2.2)) (evs_c (ev_v rfl) (evs_c (ev_op (d := eInt ((w8.1.2 - w8.2.1.2) + w8.2.2.2)) (evs_c (ev_op (d := eInt (w8.1.2 - w8.2.1.2)) (evs_c (ev_v rfl) (evs_c (ev_v rfl) evs_n)) rfl rfl) (evs_c (ev_v rfl) evs_n)) rfl rfl) evs_n)) rfl rfl) rfl evd_n)) (dsp_l q_l10 (by simp [List.map_append]))) rfl) rfl rfl
            · refine t_ifF (tk (tst_of (ev_op (d := eBl (decide (w8.2.1.2 ≤ w8.1.2))) (evs_c (ev_v rfl) (evs_c (ev_v rfl) evs_n)) rfl rfl) rfl rfl) k) ?_
              refine bnd h fun rows11 q_rows11 h => ?_
              cases h
              exact fin_nx [0, 0, 2, 2, 2, 2, 2, 2] (nx_setO (ev_eq (enc := (eLst (e2 eStr eInt))) (ev_mk (d := (eLst (e2 eStr eInt)) [(w8.2.1.1, w8.2.1.2 - w8.1.2), (w8.2.2.1, w8.2.2.2)]) (evs_c (ev_mk (d := (e2 eStr eInt) (w8.2.1.1, w8.2.1.2 - w8.1.2)) (evs_c (ev_v rfl) (evs_c (ev_op (d := eInt (w8.2.1.2 - w8.1.2)) (evs_c (ev_v rfl) (evs_c (ev_v rfl) evs_n)) rfl rfl) evs_n)) rfl rfl) (evs_c (ev_mk (d := (e2 eStr eInt) (w8.2.2.1, w8.2.2.2)) (evs_c (ev_v rfl) (evs_c (ev_v rfl) evs_n)) rfl rfl) evs_n)) rfl rfl) q_rows11) rfl) rfl rfl) q_c12)
def t_reduce (span_ : Int) (steps_ : List Nat) : Option (List Nat) :=
  (some ([] : List ((List Nat) × Int))).bind fun rows1 =>
  (fld (fun (b3 : List Nat) (s2 : List ((List Nat) × Int)) =>
      (if (!s2.isEmpty) = true then ((atI s2 (-1)).bind fun x4 => some (x4.1 == b3)) else some false).bind fun b5 =>
      (if b5 = true then (
        (atI s2 (-1)).bind fun x7 =>
        (tset s2 (-1) (b3, x7.2 + 1)).bind fun rows8 =>
        some rows8)
      else (
        (tapp s2 (b3, 1)).bind fun rows10 =>
        some rows10)).bind fun s6 =>
      (t_settled span_ s6).bind fun rows11 =>
      some rows11) (chars steps_) rows1).bind fun s12 =>
  (tcmp (fun (b13 : (List Nat) × Int) => (rep b13.1 b13.2).bind fun s14 => some [s14]) s12).bind fun l15 =>
  (sjoin [] l15).bind fun s16 =>
  some s16
theorem t_reduce_ok {span_ : Int} {steps_ : List Nat} {r9 : List Nat} (h : t_reduce span_ steps_ = some r9) : φ_reduce [eInt span_, eStr steps_] = some (eStr r9) := by
  unfold t_reduce at h
  unfold φ_reduce
  show runI _ _ _ _ = _
  unfold s_reduce
  refine run_I (p := [.ex (.im (eInt span_)), .ex (.im (eStr steps_)), .ex .un, .ex .un, .ex .un]) rfl ?_ rfl
  refine bnd h fun rows1 q_rows1 h => ?_
  refine fin_seq (nx_setO (ev_eq (enc := (eLst (e2 eStr eInt))) (ev_mk (d := (eLst (e2 eStr eInt)) ([] : List ((List Nat) × Int))) evs_n rfl rfl) q_rows1) rfl) ?_
  refine fin_to (p' := [.ex (.im (eInt span_)), .ex (.im (eStr steps_)), .ex (.ow ((eLst (e2 eStr eInt)) rows1)), .ex .un, .ex .un]) rfl ?_
  refine bnd h fun s12 q_s12 h => ?_
  refine fin_seq (st_for (I := eStr) (P := fun (s2 : List ((List Nat) × Int)) => [.ex (.im (eInt span_)), .ex (.im (eStr steps_)), .ex (.ow ((eLst (e2 eStr eInt)) s2)), .soft, .ex .un]) (st := rows1) (it_of (g := itemsF) (evs_c (ev_v rfl) evs_n) rfl it_str) [0, 0, 0, 2, 0] rfl rfl (fun b3 s2 st9 h => by
      refine ⟨_, rfl, ?_⟩
      refine fin_to (p' := [.ex (.im (eInt span_)), .ex (.im (eStr steps_)), .ex (.ow ((eLst (e2 eStr eInt)) s2)), .ex (.im (eStr b3)), .ex .un]) rfl ?_
      refine bnd h fun b5 q_b5 h => ?_
      refine bnd h fun s6 q_s6 h => ?_
      refine fin_seqJ (st := s6) (P' := fun (s6 : List ((List Nat) × Int)) => [.ex (.im (eInt span_)), .ex (.im (eStr steps_)), .ex (.ow ((eLst (e2 eStr eInt)) s6)), .ex (.im (eStr b3)), .ex .un]) ?_ ?_
      · refine ifS q_s6 (fun k h => ?_) (fun k h => ?_)
        · refine t_ifT (tk (tst_andM (tst_of (ev_ow rfl) rfl tr_lst) q_b5 (fun _ h => by
            refine bnd h fun x4 q_x4 h => ?_
            exact tst_eq (tst_of (ev_op (d := eBl (x4.1 == b3)) (evs_c (ev_op (d := eStr x4.1) (evs_c (ev_op (d := (e2 eStr eInt) x4) (evs_c (ev_ow rfl) (evs_c (ev_op (d := eInt (-1)) (evs_c ev_cst evs_n) rfl rfl) evs_n)) rfl (ix_lst q_x4)) (evs_c ev_cst evs_n)) rfl rfl) (evs_c (ev_v rfl) evs_n)) rfl (eq_sc eqe_str (x := x4.1) (y := b3) rfl)) rfl rfl) h)) k) ?_
          refine bnd h fun x7 q_x7 h => ?_
          refine bnd h fun rows8 q_rows8 h => ?_
          exact fin_nxE [0, 0, 0, 0, 0] (v := rows8) (nx_sub (o' := (eLst (e2 eStr eInt)) rows8) rfl (evs_c (ev_mk (d := (e2 eStr eInt) (b3, x7.2 + 1)) (evs_c (ev_v rfl) (evs_c (ev_op (d := eInt (x7.2 + 1)) (evs_c (ev_op (d := eInt x7.2) (evs_c (ev_op (d := (e2 eStr eInt) x7) (evs_c (ev_ow rfl) (evs_c (ev_op (d := eInt (-1)) (evs_c ev_cst evs_n) rfl rfl) evs_n)) rfl (ix_lst q_x7)) (evs_c ev_cst evs_n)) rfl rfl) (evs_c ev_cst evs_n)) rfl rfl) evs_n)) rfl rfl) (evs_c (ev_op (d := eInt (-1)) (evs_c ev_cst evs_n) rfl rfl) evs_n)) rfl rfl (tset_ok q_rows8)) rfl rfl h
        · refine t_ifF (tk (tst_andM (tst_of (ev_ow rfl) rfl tr_lst) q_b5 (fun _ h => by
            refine bnd h fun x4 q_x4 h => ?_
            exact tst_eq (tst_of (ev_op (d := eBl (x4.1 == b3)) (evs_c (ev_op (d := eStr x4.1) (evs_c (ev_op (d := (e2 eStr eInt) x4) (evs_c (ev_ow rfl) (evs_c (ev_op (d := eInt (-1)) (evs_c ev_cst evs_n) rfl rfl) evs_n)) rfl (ix_lst q_x4)) (evs_c ev_cst evs_n)) rfl rfl) (evs_c (ev_v rfl) evs_n)) rfl (eq_sc eqe_str (x := x4.1) (y := b3) rfl)) rfl rfl) h)) k) ?_
          refine bnd h fun rows10 q_rows10 h => ?_
          exact fin_nxE [0, 0, 0, 0, 0] (v := rows10) (nx_appT rfl (ev_mk (d := (e2 eStr eInt) (b3, 1)) (evs_c (ev_v rfl) (evs_c ev_cst evs_n)) rfl rfl) rfl rfl q_rows10) rfl rfl h
      · refine bnd h fun rows11 q_rows11 h => ?_
        exact fin_nxE [0, 0, 0, 2, 0] (v := rows11) (nx_mov (evs_c (ev_v rfl) evs_n) rfl rfl (t_settled_ok q_rows11)) rfl rfl h) q_s12) ?_
  refine fin_to (p' := [.ex (.im (eInt span_)), .ex (.im (eStr steps_)), .ex (.ow ((eLst (e2 eStr eInt)) s12)), .soft, .ex .un]) rfl ?_
  refine bnd h fun l15 q_l15 h => ?_
  refine bnd h fun s16 q_s16 h => ?_
  exact fin_retE (enc := eStr) (v := s16) (ev_op (d := eStr s16) (evs_c ev_cst (evs_c (ev_lcU (I := (e2 eStr eInt)) (O := eStr) (pw := [.ex (.im (eInt span_)), .ex (.im (eStr steps_)), .ex (.im ((eLst (e2 eStr eInt)) s12)), .ex .un, .ex .un]) (it_of (g := itemsF) (evs_c (ev_ow rfl) evs_n) rfl it_lst) rfl rfl (fun b13 ys h => by
        refine bnd h fun s14 q_s14 h => ?_
        cases h
        exact turnK (d1 := eStr s14) rfl evt_n (ev_op (d := eStr s14) (evs_c (ev_v rfl) (evs_c (ev_v rfl) evs_n)) rfl (rep_ok q_s14)) rfl rfl) q_l15 rfl) evs_n)) rfl (sjoin_ok q_s16)) rfl rfl h (fun _ _ => trivial)
def t_reduced (span_ : Int) (steps_ : List Nat) : Option (List Nat) :=
  (t_need_span span_).bind fun c1 =>
  (t_need_input steps_).bind fun c2 =>
  (t_reduce span_ steps_).bind fun c3 =>
  some c3
theorem t_reduced_ok {span_ : Int} {steps_ : List Nat} {r9 : List Nat} (h : t_reduced span_ steps_ = some r9) : φ_reduced [eInt span_, eStr steps_] = some (eStr r9) := by
  unfold t_reduced at h
  unfold φ_reduced
  show runI _ _ _ _ = _
  unfold s_reduced
  refine run_I (p := [.ex (.im (eInt span_)), .ex (.im (eStr steps_))]) rfl ?_ rfl
  refine bnd h fun c1 q_c1 h => ?_
  refine fin_seq (nx_exp (ev_call (d := eNo c1) (evs_c (ev_v rfl) evs_n) rfl (t_need_span_ok q_c1))) ?_
  refine fin_to (p' := [.ex (.im (eInt span_)), .ex (.im (eStr steps_))]) rfl ?_
  refine bnd h fun c2 q_c2 h => ?_
  refine fin_seq (nx_exp (ev_call (d := eNo c2) (evs_c (ev_v rfl) evs_n) rfl (t_need_input_ok q_c2))) ?_
  refine fin_to (p' := [.ex (.im (eInt span_)), .ex (.im (eStr steps_))]) rfl ?_
  refine bnd h fun c3 q_c3 h => ?_
  exact fin_retE (enc := eStr) (v := c3) (ev_call (d := eStr c3) (evs_c (ev_v rfl) (evs_c (ev_v rfl) evs_n)) rfl (t_reduce_ok q_c3)) rfl rfl h (fun _ _ => trivial)
def t_tells_all (span_ : Int) (some_ : List (List Nat)) : Option (Bool) :=
  (t_need_asked span_ some_).bind fun c1 =>
  (t_basis_of span_ some_).bind fun c2 =>
  (t_all_relays span_).bind fun c3 =>
  some ((c2.length : Int) == (c3.length : Int))
theorem t_tells_all_ok {span_ : Int} {some_ : List (List Nat)} {r9 : Bool} (h : t_tells_all span_ some_ = some r9) : φ_tells_all [eInt span_, (eTup eStr) some_] = some (eBl r9) := by
  unfold t_tells_all at h
  unfold φ_tells_all
  show runI _ _ _ _ = _
  unfold s_tells_all
  refine run_I (p := [.ex (.im (eInt span_)), .ex (.im ((eTup eStr) some_))]) rfl ?_ rfl
  refine bnd h fun c1 q_c1 h => ?_
  refine fin_seq (nx_exp (ev_call (d := eNo c1) (evs_c (ev_v rfl) (evs_c (ev_v rfl) evs_n)) rfl (t_need_asked_ok q_c1))) ?_
  refine fin_to (p' := [.ex (.im (eInt span_)), .ex (.im ((eTup eStr) some_))]) rfl ?_
  refine bnd h fun c2 q_c2 h => ?_
  refine bnd h fun c3 q_c3 h => ?_
  exact fin_retE (enc := eBl) (v := (c2.length : Int) == (c3.length : Int)) (ev_op (d := eBl ((c2.length : Int) == (c3.length : Int))) (evs_c (ev_op (d := eInt (c2.length : Int)) (evs_c (ev_call (d := (eLst (eLst (e2 eInt eInt))) c2) (evs_c (ev_v rfl) (evs_c (ev_v rfl) evs_n)) rfl (t_basis_of_ok q_c2)) evs_n) rfl len_lst) (evs_c (ev_op (d := eInt (c3.length : Int)) (evs_c (ev_call (d := (eLst (e2 eInt eInt)) c3) (evs_c (ev_v rfl) evs_n) rfl (t_all_relays_ok q_c3)) evs_n) rfl len_lst) evs_n)) rfl (eq_sc eqe_int (x := (c2.length : Int)) (y := (c3.length : Int)) rfl)) rfl rfl h (fun _ _ => trivial)
def t_all_memories (span_ : Int) : Option (List (List Nat)) :=
  (some [[]]).bind fun found1 =>
  (trange1 span_).bind fun r2 =>
  (fld (fun (b4 : Int) (s3 : List (List Nat)) =>
      (tcmp (fun (b5 : List Nat) => cmp (fun (b6 : List Nat) => (scat b5 b6).bind fun s7 => some [s7]) (chars [48, 49])) s3).bind fun l10 =>
      some l10) r2 found1).bind fun s11 =>
  some s11
theorem t_all_memories_ok {span_ : Int} {r9 : List (List Nat)} (h : t_all_memories span_ = some r9) : φ_all_memories [eInt span_] = some ((eLst eStr) r9) := by
  unfold t_all_memories at h
  unfold φ_all_memories
  show runI _ _ _ _ = _
  unfold s_all_memories
  refine run_I (p := [.ex (.im (eInt span_)), .ex .un, .ex .un, .ex .un, .ex .un]) rfl ?_ rfl
  refine bnd h fun found1 q_found1 h => ?_
  refine fin_seq (nx_set (ev_eq (enc := (eLst eStr)) (ev_mk (d := (eLst eStr) [[]]) (evs_c ev_cst evs_n) rfl rfl) q_found1) rfl rfl) ?_
  refine fin_to (p' := [.ex (.im (eInt span_)), .ex (.im ((eLst eStr) found1)), .ex .un, .ex .un, .ex .un]) rfl ?_
  refine bnd h fun r2 q_r2 h => ?_
  refine bnd h fun s11 q_s11 h => ?_
  refine fin_seq (st_for (I := eInt) (P := fun (s3 : List (List Nat)) => [.ex (.im (eInt span_)), .ex (.im ((eLst eStr) s3)), .soft, .ex .un, .ex .un]) (st := found1) (it_of (g := range1F) (evs_c (ev_v rfl) evs_n) rfl (trange1_ok q_r2)) [0, 0, 2, 0, 0] rfl rfl (fun b4 s3 st9 h => by
      refine ⟨_, rfl, ?_⟩
      refine fin_to (p' := [.ex (.im (eInt span_)), .ex (.im ((eLst eStr) s3)), .ex (.im (eInt b4)), .ex .un, .ex .un]) rfl ?_
      refine bnd h fun l10 q_l10 h => ?_
      exact fin_nxE [0, 0, 2, 0, 0] (v := l10) (nx_set (ev_lc2U (I := eStr) (O := eStr) (pw := [.ex (.im (eInt span_)), .ex (.im ((eLst eStr) s3)), .ex (.im (eInt b4)), .ex .un, .ex .un]) (it_of (g := itemsF) (evs_c (ev_v rfl) evs_n) rfl it_lst) rfl rfl rfl (fun b5 ys h => by
            exact turn2K (I := eStr) (O := eStr) (pw := [.ex (.im (eInt span_)), .ex (.im ((eLst eStr) s3)), .ex (.im (eInt b4)), .ex (.im (eStr b5)), .ex .un]) rfl evt_n (it_of (g := itemsF) (evs_c ev_cst evs_n) rfl it_str) rfl rfl (fun b6 ys h => by
                refine bnd h fun s7 q_s7 h => ?_
                cases h
                exact turnK (d1 := eStr s7) rfl evt_n (ev_op (d := eStr s7) (evs_c (ev_v rfl) (evs_c (ev_v rfl) evs_n)) rfl (scat_ok q_s7)) rfl rfl) h rfl) q_l10 rfl) rfl rfl) rfl rfl h) q_s11) ?_
  refine fin_to (p' := [.ex (.im (eInt span_)), .ex (.im ((eLst eStr) s11)), .soft, .ex .un, .ex .un]) rfl ?_
  exact fin_retE (enc := (eLst eStr)) (v := s11) (ev_v rfl) rfl rfl h (fun _ _ => trivial)
def t_on_in (memory_ : List Nat) : Option (List (Int × Int)) :=
  (slen memory_).bind fun n1 =>
  (t_all_relays n1).bind fun c2 =>
  (tcmp (fun (b3 : Int × Int) => (t_holds memory_ b3).bind fun c4 => if c4 = true then (some [b3]) else some []) c2).bind fun l5 =>
  some l5
theorem t_on_in_ok {memory_ : List Nat} {r9 : List (Int × Int)} (h : t_on_in memory_ = some r9) : φ_on_in [eStr memory_] = some ((eLst (e2 eInt eInt)) r9) := by
  unfold t_on_in at h
  unfold φ_on_in
  show runI _ _ _ _ = _
  unfold s_on_in
  refine run_I (p := [.ex (.im (eStr memory_)), .ex .un]) rfl ?_ rfl
  refine bnd h fun n1 q_n1 h => ?_
  refine bnd h fun c2 q_c2 h => ?_
  refine bnd h fun l5 q_l5 h => ?_
  exact fin_retE (enc := (eLst (e2 eInt eInt))) (v := l5) (ev_lcU (I := (e2 eInt eInt)) (O := (e2 eInt eInt)) (pw := [.ex (.im (eStr memory_)), .ex .un]) (it_of (g := itemsF) (evs_c (ev_call (d := (eLst (e2 eInt eInt)) c2) (evs_c (ev_op (d := eInt n1) (evs_c (ev_v rfl) evs_n) rfl (slen_ok q_n1)) evs_n) rfl (t_all_relays_ok q_c2)) evs_n) rfl it_lst) rfl rfl (fun b3 ys h => by
        refine bnd h fun c4 q_c4 h => ?_
        refine ifS h (fun k h => ?_) (fun k h => ?_)
        · cases h
          exact turnK (d1 := (e2 eInt eInt) b3) rfl (evt_t (tk (tst_of (ev_call (d := eBl c4) (evs_c (ev_v rfl) (evs_c (ev_v rfl) evs_n)) rfl (t_holds_ok q_c4)) rfl rfl) k)) (ev_v rfl) rfl rfl
        · cases h
          exact turnD rfl (evt_t (tk (tst_of (ev_call (d := eBl c4) (evs_c (ev_v rfl) (evs_c (ev_v rfl) evs_n)) rfl (t_holds_ok q_c4)) rfl rfl) k)) rfl) q_l5 rfl) rfl rfl h (fun _ _ => trivial)
def t_reduced_by (rows_ : List (List (Int × Int))) (row_ : List (Int × Int)) : Option (List (Int × Int)) :=
  (fld (fun (b2 : List (Int × Int)) (s1 : List (Int × Int)) =>
      (t_lead b2).bind fun c3 =>
      (c3).bind fun u4 =>
      (atI s1 u4).bind fun x5 =>
      if (!(x5.1 == 0)) = true then (
        (c3).bind fun u6 =>
        (atI s1 u6).bind fun x7 =>
        (c3).bind fun u8 =>
        (atI b2 u8).bind fun x10 =>
        (t_over x7 x10).bind fun c11 =>
        (tcmp (fun (b12 : (Int × Int) × (Int × Int)) => (t_by c11 b12.2).bind fun c13 => (t_minus b12.1 c13).bind fun c14 => some [c14]) (List.zip s1 b2)).bind fun l15 =>
        some l15)
      else (
        some s1)) rows_ row_).bind fun s16 =>
  some s16
theorem t_reduced_by_ok {rows_ : List (List (Int × Int))} {row_ : List (Int × Int)} {r9 : List (Int × Int)} (h : t_reduced_by rows_ row_ = some r9) : φ_reduced_by [(eLst (eLst (e2 eInt eInt))) rows_, (eLst (e2 eInt eInt)) row_] = some ((eLst (e2 eInt eInt)) r9) := by
  unfold t_reduced_by at h
  unfold φ_reduced_by
  show runI _ _ _ _ = _
  unfold s_reduced_by
  refine run_I (p := [.ex (.im ((eLst (eLst (e2 eInt eInt))) rows_)), .ex (.im ((eLst (e2 eInt eInt)) row_)), .ex .un, .ex .un, .ex .un, .ex .un, .ex .un]) rfl ?_ rfl
  refine bnd h fun s16 q_s16 h => ?_
  refine fin_seq (st_for (I := (eLst (e2 eInt eInt))) (P := fun (s1 : List (Int × Int)) => [.ex (.im ((eLst (eLst (e2 eInt eInt))) rows_)), .ex (.im ((eLst (e2 eInt eInt)) s1)), .soft, .soft, .soft, .ex .un, .ex .un]) (st := row_) (it_of (g := itemsF) (evs_c (ev_v rfl) evs_n) rfl it_lst) [0, 0, 2, 2, 2, 0, 0] rfl rfl (fun b2 s1 st9 h => by
      refine ⟨_, rfl, ?_⟩
      refine fin_to (p' := [.ex (.im ((eLst (eLst (e2 eInt eInt))) rows_)), .ex (.im ((eLst (e2 eInt eInt)) s1)), .ex (.im ((eLst (e2 eInt eInt)) b2)), .soft, .soft, .ex .un, .ex .un]) rfl ?_
      refine bnd h fun c3 q_c3 h => ?_
      refine fin_seq (nx_set (ev_call (d := (eOp eInt) c3) (evs_c (ev_v rfl) evs_n) rfl (t_lead_ok q_c3)) rfl rfl) ?_
      refine fin_to (p' := [.ex (.im ((eLst (eLst (e2 eInt eInt))) rows_)), .ex (.im ((eLst (e2 eInt eInt)) s1)), .ex (.im ((eLst (e2 eInt eInt)) b2)), .ex (.im ((eOp eInt) c3)), .soft, .ex .un, .ex .un]) rfl ?_
      refine bnd h fun u4 q_u4 h => ?_
      refine bnd h fun x5 q_x5 h => ?_
      refine ifS h (fun k h => ?_) (fun k h => ?_)
      · refine t_ifT (tk (tst_of (ev_op (d := eBl (!(x5.1 == 0))) (evs_c (ev_op (d := eInt x5.1) (evs_c (ev_op (d := (e2 eInt eInt) x5) (evs_c (ev_v rfl) (evs_c (ev_opt (e := eInt) (ev_v rfl) q_u4) evs_n)) rfl (ix_lst q_x5)) (evs_c ev_cst evs_n)) rfl rfl) (evs_c ev_cst evs_n)) rfl (ne_sc eqe_int (x := x5.1) (y := 0) rfl)) rfl rfl) k) ?_
        refine bnd h fun u6 q_u6 h => ?_
        refine bnd h fun x7 q_x7 h => ?_
        refine bnd h fun u8 q_u8 h => ?_
        refine bnd h fun x10 q_x10 h => ?_
        refine bnd h fun c11 q_c11 h => ?_
        refine fin_seq (nx_set (ev_call (d := (e2 eInt eInt) c11) (evs_c (ev_op (d := (e2 eInt eInt) x7) (evs_c (ev_v rfl) (evs_c (ev_opt (e := eInt) (ev_v rfl) q_u6) evs_n)) rfl (ix_lst q_x7)) (evs_c (ev_op (d := (e2 eInt eInt) x10) (evs_c (ev_v rfl) (evs_c (ev_opt (e := eInt) (ev_v rfl) q_u8) evs_n)) rfl (ix_lst q_x10)) evs_n)) rfl (t_over_ok q_c11)) rfl rfl) ?_
        refine fin_to (p' := [.ex (.im ((eLst (eLst (e2 eInt eInt))) rows_)), .ex (.im ((eLst (e2 eInt eInt)) s1)), .ex (.im ((eLst (e2 eInt eInt)) b2)), .ex (.im ((eOp eInt) c3)), .ex (.im ((e2 eInt eInt) c11)), .ex .un, .ex .un]) rfl ?_
        refine bnd h fun l15 q_l15 h => ?_
        exact fin_nxE [0, 0, 2, 2, 2, 0, 0] (v := l15) (nx_set (ev_lcU (I := (e2 (e2 eInt eInt) (e2 eInt eInt))) (O := (e2 eInt eInt)) (pw := [.ex (.im ((eLst (eLst (e2 eInt eInt))) rows_)), .ex (.im ((eLst (e2 eInt eInt)) s1)), .ex (.im ((eLst (e2 eInt eInt)) b2)), .ex (.im ((eOp eInt) c3)), .ex (.im ((e2 eInt eInt) c11)), .ex .un, .ex .un]) (it_of (g := zip2F) (evs_c (ev_v rfl) (evs_c (ev_v rfl) evs_n)) rfl (zp src_lst src_lst)) rfl rfl (fun b12 ys h => by
              refine bnd h fun c13 q_c13 h => ?_
              refine bnd h fun c14 q_c14 h => ?_
              cases h
              exact turnK (d1 := (e2 eInt eInt) c14) rfl evt_n (ev_call (d := (e2 eInt eInt) c14) (evs_c (ev_v rfl) (evs_c (ev_call (d := (e2 eInt eInt) c13) (evs_c (ev_v rfl) (evs_c (ev_v rfl) evs_n)) rfl (t_by_ok q_c13)) evs_n)) rfl (t_minus_ok q_c14)) rfl rfl) q_l15 rfl) rfl rfl) rfl rfl h
      · refine t_ifF (tk (tst_of (ev_op (d := eBl (!(x5.1 == 0))) (evs_c (ev_op (d := eInt x5.1) (evs_c (ev_op (d := (e2 eInt eInt) x5) (evs_c (ev_v rfl) (evs_c (ev_opt (e := eInt) (ev_v rfl) q_u4) evs_n)) rfl (ix_lst q_x5)) (evs_c ev_cst evs_n)) rfl rfl) (evs_c ev_cst evs_n)) rfl (ne_sc eqe_int (x := x5.1) (y := 0) rfl)) rfl rfl) k) ?_
        exact fin_nxE [0, 0, 2, 2, 0, 0, 0] (v := s1) nx_skip rfl rfl h) q_s16) ?_
  refine fin_to (p' := [.ex (.im ((eLst (eLst (e2 eInt eInt))) rows_)), .ex (.im ((eLst (e2 eInt eInt)) s16)), .soft, .soft, .soft, .ex .un, .ex .un]) rfl ?_
  exact fin_retE (enc := (eLst (e2 eInt eInt))) (v := s16) (ev_v rfl) rfl rfl h (fun _ _ => trivial)
def t_way_from_all : Nat → (List Nat) → (List Nat) → Option (List Nat)
  | 0 => fun _ _ => none
  | n9 + 1 => fun sign_ memory_ =>
    (some (if (sign_ == [49]) = true then [100] else [117])).bind fun letter1 =>
    (some (if (sign_ == [49]) = true then [48] else [49])).bind fun other2 =>
    (sfind memory_ other2).bind fun n3 =>
    if (decide (n3 < 0)) = true then (
      some [])
    else (
      (slen memory_).bind fun n4 =>
      (rep letter1 (n4 - n3)).bind fun s5 =>
      (scut memory_ (some (n3 + 1)) none).bind fun s6 =>
      (t_way_from_all n9 other2 s6).bind fun c7 =>
      (scat s5 c7).bind fun s8 =>
      some s8)
theorem t_way_from_all_ok : ∀ (n9 : Nat) {sign_ : List Nat} {memory_ : List Nat} {r9 : List Nat}, t_way_from_all n9 sign_ memory_ = some r9 → φ_way_from_all n9 [eStr sign_, eStr memory_] = some (eStr r9)
  | 0, _, _, _, h => by cases h
  | n9 + 1, sign_, memory_, r9, h => by
    have ih : ∀ {sign_ : List Nat} {memory_ : List Nat} {r9 : List Nat}, t_way_from_all n9 sign_ memory_ = some r9 → φ_way_from_all n9 [eStr sign_, eStr memory_] = some (eStr r9) := t_way_from_all_ok n9
    unfold t_way_from_all at h
    unfold φ_way_from_all s_way_from_all
    refine run_I (p := [.ex (.im (eStr sign_)), .ex (.im (eStr memory_)), .ex .un, .ex .un, .ex .un]) rfl ?_ rfl
    refine bnd h fun letter1 q_letter1 h => ?_
    refine fin_seq (nx_set (ev_eq (enc := eStr) (t_iteP (enc := eStr) (u := [100]) (v := [117]) (tst_of (ev_op (d := eBl (sign_ == [49])) (evs_c (ev_v rfl) (evs_c ev_cst evs_n)) rfl (eq_sc eqe_str (x := sign_) (y := [49]) rfl)) rfl rfl) (fun _ => ev_cst) (fun _ => ev_cst)) q_letter1) rfl rfl) ?_
    refine fin_to (p' := [.ex (.im (eStr sign_)), .ex (.im (eStr memory_)), .ex (.im (eStr letter1)), .ex .un, .ex .un]) rfl ?_
    refine bnd h fun other2 q_other2 h => ?_
    refine fin_seq (nx_set (ev_eq (enc := eStr) (t_iteP (enc := eStr) (u := [48]) (v := [49]) (tst_of (ev_op (d := eBl (sign_ == [49])) (evs_c (ev_v rfl) (evs_c ev_cst evs_n)) rfl (eq_sc eqe_str (x := sign_) (y := [49]) rfl)) rfl rfl) (fun _ => ev_cst) (fun _ => ev_cst)) q_other2) rfl rfl) ?_
    refine fin_to (p' := [.ex (.im (eStr sign_)), .ex (.im (eStr memory_)), .ex (.im (eStr letter1)), .ex (.im (eStr other2)), .ex .un]) rfl ?_
    refine bnd h fun n3 q_n3 h => ?_
    refine fin_seq (nx_set (ev_op (d := eInt n3) (evs_c (ev_v rfl) (evs_c (ev_v rfl) evs_n)) rfl (sfind_ok q_n3)) rfl rfl) ?_
    refine fin_to (p' := [.ex (.im (eStr sign_)), .ex (.im (eStr memory_)), .ex (.im (eStr letter1)), .ex (.im (eStr other2)), .ex (.im (eInt n3))]) rfl ?_
    refine ifS h (fun k h => ?_) (fun k h => ?_)
    · refine t_sifT (tk (tst_of (ev_op (d := eBl (decide (n3 < 0))) (evs_c (ev_v rfl) (evs_c ev_cst evs_n)) rfl rfl) rfl rfl) k) ?_
      refine fin_seqR (P' := fun (_ : Unit) => []) ?_
      exact fin_retE (enc := eStr) (v := []) ev_cst rfl rfl h (fun _ _ => trivial)
    · refine t_sifF (tk (tst_of (ev_op (d := eBl (decide (n3 < 0))) (evs_c (ev_v rfl) (evs_c ev_cst evs_n)) rfl rfl) rfl rfl) k) ?_
      refine fin_skip ?_
      refine bnd h fun n4 q_n4 h => ?_
      refine bnd h fun s5 q_s5 h => ?_
      refine bnd h fun s6 q_s6 h => ?_
      refine bnd h fun c7 q_c7 h => ?_
      refine bnd h fun s8 q_s8 h => ?_
      exact fin_retE (enc := eStr) (v := s8) (ev_op (d := eStr s8) (evs_c (ev_op (d := eStr s5) (evs_c (ev_v rfl) (evs_c (ev_op (d := eInt (n4 - n3)) (evs_c (ev_op (d := eInt n4) (evs_c (ev_v rfl) evs_n) rfl (slen_ok q_n4)) (evs_c (ev_v rfl) evs_n)) rfl rfl) evs_n)) rfl (rep_ok q_s5)) (evs_c (ev_call (d := eStr c7) (evs_c (ev_v rfl) (evs_c (ev_op (d := eStr s6) (evs_c (ev_v rfl) (evs_c (ev_op (d := eInt (n3 + 1)) (evs_c (ev_v rfl) (evs_c ev_cst evs_n)) rfl rfl) evs_n)) rfl (scut_ok q_s6)) evs_n)) rfl (ih q_c7)) evs_n)) rfl (scat_ok q_s8)) rfl rfl h (fun _ _ => trivial)
def t_way_of (one_ : List Nat) (other_ : List Nat) : Option (List Nat) :=
  if (one_ == other_) = true then (
    some [])
  else (
    (slen one_).bind fun n1 =>
    (trange1 n1).bind fun r2 =>
    (tcmp (fun (b3 : Int) => (sat one_ b3).bind fun x4 => (sat other_ b3).bind fun x5 => if (!(x4 == x5)) = true then (some [b3]) else some []) r2).bind fun l6 =>
    (atI l6 0).bind fun x7 =>
    (sat other_ x7).bind fun x8 =>
    (some (if (x8 == [49]) = true then ([117], [48]) else ([100], [49]))).bind fun v10 =>
    (scut one_ (some x7) none).bind fun s11 =>
    (scount s11 v10.2).bind fun n12 =>
    (rep v10.1 n12).bind fun s13 =>
    (scut other_ (some (x7 + 1)) none).bind fun s14 =>
    (t_way_from_all 8 x8 s14).bind fun c15 =>
    (scat s13 c15).bind fun s16 =>
    some s16)
theorem t_way_of_ok {one_ : List Nat} {other_ : List Nat} {r9 : List Nat} (h : t_way_of one_ other_ = some r9) : φ_way_of [eStr one_, eStr other_] = some (eStr r9) := by
  unfold t_way_of at h
  unfold φ_way_of
  show runI _ _ _ _ = _
  unfold s_way_of
  refine run_I (p := [.ex (.im (eStr one_)), .ex (.im (eStr other_)), .ex .un, .ex .un, .ex .un, .ex .un, .ex .un]) rfl ?_ rfl
  refine ifS h (fun k h => ?_) (fun k h => ?_)
  · refine t_sifT (tk (tst_of (ev_op (d := eBl (one_ == other_)) (evs_c (ev_v rfl) (evs_c (ev_v rfl) evs_n)) rfl (eq_sc eqe_str (x := one_) (y := other_) rfl)) rfl rfl) k) ?_
    refine fin_seqR (P' := fun (_ : Unit) => []) ?_
    exact fin_retE (enc := eStr) (v := []) ev_cst rfl rfl h (fun _ _ => trivial)
  · refine t_sifF (tk (tst_of (ev_op (d := eBl (one_ == other_)) (evs_c (ev_v rfl) (evs_c (ev_v rfl) evs_n)) rfl (eq_sc eqe_str (x := one_) (y := other_) rfl)) rfl rfl) k) ?_
    refine fin_skip ?_
    refine bnd h fun n1 q_n1 h => ?_
    refine bnd h fun r2 q_r2 h => ?_
    refine bnd h fun l6 q_l6 h => ?_
    refine bnd h fun x7 q_x7 h => ?_
    refine fin_seq (nx_set (ev_op (d := eInt x7) (evs_c (ev_lcU (I := eInt) (O := eInt) (pw := [.ex (.im (eStr one_)), .ex (.im (eStr other_)), .ex .un, .ex .un, .ex .un, .ex .un, .ex .un]) (it_of (g := range1F) (evs_c (ev_op (d := eInt n1) (evs_c (ev_v rfl) evs_n) rfl (slen_ok q_n1)) evs_n) rfl (trange1_ok q_r2)) rfl rfl (fun b3 ys h => by
          refine bnd h fun x4 q_x4 h => ?_
          refine bnd h fun x5 q_x5 h => ?_
          refine ifS h (fun k h => ?_) (fun k h => ?_)
          · cases h
            exact turnK (d1 := eInt b3) rfl (evt_t (tk (tst_of (ev_op (d := eBl (!(x4 == x5))) (evs_c (ev_op (d := eStr x4) (evs_c (ev_v rfl) (evs_c (ev_v rfl) evs_n)) rfl (sat_ok q_x4)) (evs_c (ev_op (d := eStr x5) (evs_c (ev_v rfl) (evs_c (ev_v rfl) evs_n)) rfl (sat_ok q_x5)) evs_n)) rfl (ne_sc eqe_str (x := x4) (y := x5) rfl)) rfl rfl) k)) (ev_v rfl) rfl rfl
          · cases h
            exact turnD rfl (evt_t (tk (tst_of (ev_op (d := eBl (!(x4 == x5))) (evs_c (ev_op (d := eStr x4) (evs_c (ev_v rfl) (evs_c (ev_v rfl) evs_n)) rfl (sat_ok q_x4)) (evs_c (ev_op (d := eStr x5) (evs_c (ev_v rfl) (evs_c (ev_v rfl) evs_n)) rfl (sat_ok q_x5)) evs_n)) rfl (ne_sc eqe_str (x := x4) (y := x5) rfl)) rfl rfl) k)) rfl) q_l6 rfl) (evs_c ev_cst evs_n)) rfl (ix_lst q_x7)) rfl rfl) ?_
    refine fin_to (p' := [.ex (.im (eStr one_)), .ex (.im (eStr other_)), .ex (.im (eInt x7)), .ex .un, .ex .un, .ex .un, .ex .un]) rfl ?_
    refine bnd h fun x8 q_x8 h => ?_
    refine fin_seq (nx_set (ev_op (d := eStr x8) (evs_c (ev_v rfl) (evs_c (ev_v rfl) evs_n)) rfl (sat_ok q_x8)) rfl rfl) ?_
    refine fin_to (p' := [.ex (.im (eStr one_)), .ex (.im (eStr other_)), .ex (.im (eInt x7)), .ex (.im (eStr x8)), .ex .un, .ex .un, .ex .un]) rfl ?_
    refine bnd h fun v10 q_v10 h => ?_
    refine fin_seq (nx_set (ev_eq (enc := (e2 eStr eStr)) (t_iteP (enc := (e2 eStr eStr)) (u := ([117], [48])) (v := ([100], [49])) (tst_of (ev_op (d := eBl (x8 == [49])) (evs_c (ev_v rfl) (evs_c ev_cst evs_n)) rfl (eq_sc eqe_str (x := x8) (y := [49]) rfl)) rfl rfl) (fun _ => (ev_mk (d := (e2 eStr eStr) ([117], [48])) (evs_c ev_cst (evs_c ev_cst evs_n)) rfl rfl)) (fun _ => (ev_mk (d := (e2 eStr eStr) ([100], [49])) (evs_c ev_cst (evs_c ev_cst evs_n)) rfl rfl))) q_v10) rfl rfl) ?_
    refine fin_to (p' := [.ex (.im (eStr one_)), .ex (.im (eStr other_)), .ex (.im (eInt x7)), .ex (.im (eStr x8)), .ex (.im (eStr v10.1)), .ex (.im (eStr v10.2)), .ex .un]) rfl ?_
    refine bnd h fun s11 q_s11 h => ?_
    refine bnd h fun n12 q_n12 h => ?_
    refine bnd h fun s13 q_s13 h => ?_
    refine bnd h fun s14 q_s14 h => ?_
    refine bnd h fun c15 q_c15 h => ?_
    refine bnd h fun s16 q_s16 h => ?_
    exact fin_retE (enc := eStr) (v := s16) (ev_op (d := eStr s16) (evs_c (ev_op (d := eStr s13) (evs_c (ev_v rfl) (evs_c (ev_op (d := eInt n12) (evs_c (ev_op (d := eStr s11) (evs_c (ev_v rfl) (evs_c (ev_v rfl) evs_n)) rfl (scut_ok q_s11)) (evs_c (ev_v rfl) evs_n)) rfl (scount_ok q_n12)) evs_n)) rfl (rep_ok q_s13)) (evs_c (ev_call (d := eStr c15) (evs_c (ev_v rfl) (evs_c (ev_op (d := eStr s14) (evs_c (ev_v rfl) (evs_c (ev_op (d := eInt (x7 + 1)) (evs_c (ev_v rfl) (evs_c ev_cst evs_n)) rfl rfl) evs_n)) rfl (scut_ok q_s14)) evs_n)) rfl (t_way_from_all_ok  8 q_c15)) evs_n)) rfl (scat_ok q_s16)) rfl rfl h (fun _ _ => trivial)
def t_next_asking (span_ : Int) (some_ : List (List Nat)) : Option (Option (List Nat)) :=
  (t_need_asked span_ some_).bind fun c1 =>
  (t_basis_of span_ some_).bind fun c2 =>
  (some ([] : List (Int × (List Nat)))).bind fun found3 =>
  (t_all_memories span_).bind fun c4 =>
  (fld (fun (b6 : List Nat) (s5 : List (Int × (List Nat))) =>
      (t_on_in b6).bind fun c7 =>
      (t_all_relays span_).bind fun c8 =>
      (tcmp (fun (b10 : Int × Int) => (tmem (e2 eInt eInt) b10 c7).bind fun b11 => some [((if (false != b11) = true then 1 else 0), 1)]) c8).bind fun l12 =>
      (t_reduced_by c2 l12).bind fun c13 =>
      (t_lead c13).bind fun c14 =>
      if c14.isSome = true then (
        (rep [48] span_).bind fun s15 =>
        (t_way_of s15 b6).bind fun c16 =>
        (slen c16).bind fun n17 =>
        (tapp s5 (n17, c16)).bind fun found18 =>
        some found18)
      else (
        some s5)) c4 found3).bind fun s19 =>
  (if (!s19.isEmpty) = true then ((tminB (e2 eInt eStr) s19).bind fun l20 => some (some l20.2)) else (some (none : Option (List Nat)))).bind fun c21 =>
  some c21
theorem t_next_asking_ok {span_ : Int} {some_ : List (List Nat)} {r9 : Option (List Nat)} (h : t_next_asking span_ some_ = some r9) : φ_next_asking [eInt span_, (eTup eStr) some_] = some ((eOp eStr) r9) := by
  unfold t_next_asking at h
  unfold φ_next_asking
  show runI _ _ _ _ = _
  unfold s_next_asking
  refine run_I (p := [.ex (.im (eInt span_)), .ex (.im ((eTup eStr) some_)), .ex .un, .ex .un, .ex .un, .ex .un, .ex .un, .ex .un, .ex .un]) rfl ?_ rfl
  refine bnd h fun c1 q_c1 h => ?_
  refine fin_seq (nx_exp (ev_call (d := eNo c1) (evs_c (ev_v rfl) (evs_c (ev_v rfl) evs_n)) rfl (t_need_asked_ok q_c1))) ?_
  refine fin_to (p' := [.ex (.im (eInt span_)), .ex (.im ((eTup eStr) some_)), .ex .un, .ex .un, .ex .un, .ex .un, .ex .un, .ex .un, .ex .un]) rfl ?_
  refine bnd h fun c2 q_c2 h => ?_
  refine bnd h fun found3 q_found3 h => ?_
  refine fin_seq (nx_parO (evo_c (ev_call (d := (eLst (eLst (e2 eInt eInt))) c2) (evs_c (ev_v rfl) (evs_c (ev_v rfl) evs_n)) rfl (t_basis_of_ok q_c2)) rfl (evo_o (ev_eq (enc := (eLst (e2 eInt eStr))) (ev_mk (d := (eLst (e2 eInt eStr)) ([] : List (Int × (List Nat)))) evs_n rfl rfl) q_found3) evo_n)) rfl) ?_
  refine fin_to (p' := [.ex (.im (eInt span_)), .ex (.im ((eTup eStr) some_)), .ex (.im ((eLst (eLst (e2 eInt eInt))) c2)), .ex (.ow ((eLst (e2 eInt eStr)) found3)), .ex .un, .ex .un, .ex .un, .ex .un, .ex .un]) rfl ?_
  refine bnd h fun c4 q_c4 h => ?_
  refine bnd h fun s19 q_s19 h => ?_
  refine fin_seq (st_for (I := eStr) (P := fun (s5 : List (Int × (List Nat))) => [.ex (.im (eInt span_)), .ex (.im ((eTup eStr) some_)), .ex (.im ((eLst (eLst (e2 eInt eInt))) c2)), .ex (.ow ((eLst (e2 eInt eStr)) s5)), .soft, .soft, .soft, .soft, .ex .un]) (st := found3) (it_of (g := itemsF) (evs_c (ev_call (d := (eLst eStr) c4) (evs_c (ev_v rfl) evs_n) rfl (t_all_memories_ok q_c4)) evs_n) rfl it_lst) [0, 0, 0, 0, 2, 2, 2, 2, 0] rfl rfl (fun b6 s5 st9 h => by
      refine ⟨_, rfl, ?_⟩
      refine fin_to (p' := [.ex (.im (eInt span_)), .ex (.im ((eTup eStr) some_)), .ex (.im ((eLst (eLst (e2 eInt eInt))) c2)), .ex (.ow ((eLst (e2 eInt eStr)) s5)), .ex (.im (eStr b6)), .soft, .soft, .soft, .ex .un]) rfl ?_
      refine bnd h fun c7 q_c7 h => ?_
      refine fin_seq (nx_set (ev_call (d := (eLst (e2 eInt eInt)) c7) (evs_c (ev_v rfl) evs_n) rfl (t_on_in_ok q_c7)) rfl rfl) ?_
      refine fin_to (p' := [.ex (.im (eInt span_)), .ex (.im ((eTup eStr) some_)), .ex (.im ((eLst (eLst (e2 eInt eInt))) c2)), .ex (.ow ((eLst (e2 eInt eStr)) s5)), .ex (.im (eStr b6)), .ex (.im ((eLst (e2 eInt eInt)) c7)), .soft, .soft, .ex .un]) rfl ?_
      refine bnd h fun c8 q_c8 h => ?_
      refine bnd h fun l12 q_l12 h => ?_
      refine bnd h fun c13 q_c13 h => ?_
      refine fin_seq (nx_set (ev_call (d := (eLst (e2 eInt eInt)) c13) (evs_c (ev_v rfl) (evs_c (ev_lcU (I := (e2 eInt eInt)) (O := (e2 eInt eInt)) (pw := [.ex (.im (eInt span_)), .ex (.im ((eTup eStr) some_)), .ex (.im ((eLst (eLst (e2 eInt eInt))) c2)), .ex (.ow ((eLst (e2 eInt eStr)) s5)), .ex (.im (eStr b6)), .ex (.im ((eLst (e2 eInt eInt)) c7)), .soft, .soft, .ex .un]) (it_of (g := itemsF) (evs_c (ev_call (d := (eLst (e2 eInt eInt)) c8) (evs_c (ev_v rfl) evs_n) rfl (t_all_relays_ok q_c8)) evs_n) rfl it_lst) rfl rfl (fun b10 ys h => by
            refine bnd h fun b11 q_b11 h => ?_
            cases h
            exact turnK (d1 := (e2 eInt eInt) ((if (false != b11) = true then 1 else 0), 1)) rfl evt_n (ev_mk (d := (e2 eInt eInt) ((if (false != b11) = true then 1 else 0), 1)) (evs_c (t_iteP (enc := eInt) (u := 1) (v := 0) (tst_of (ev_op (d := eBl (false != b11)) (evs_c (ev_v rfl) (evs_c (ev_v rfl) evs_n)) rfl (tmem_ok (eqe_2 eqe_int eqe_int) false q_b11)) rfl rfl) (fun _ => ev_cst) (fun _ => ev_cst)) (evs_c ev_cst evs_n)) rfl rfl) rfl rfl) q_l12 rfl) evs_n)) rfl (t_reduced_by_ok q_c13)) rfl rfl) ?_
      refine fin_to (p' := [.ex (.im (eInt span_)), .ex (.im ((eTup eStr) some_)), .ex (.im ((eLst (eLst (e2 eInt eInt))) c2)), .ex (.ow ((eLst (e2 eInt eStr)) s5)), .ex (.im (eStr b6)), .ex (.im ((eLst (e2 eInt eInt)) c7)), .ex (.im ((eLst (e2 eInt eInt)) c13)), .soft, .ex .un]) rfl ?_
      refine bnd h fun c14 q_c14 h => ?_
      refine ifS h (fun k h => ?_) (fun k h => ?_)
      · refine t_ifT (tk (tst_of (ev_op (d := eBl c14.isSome) (evs_c (ev_call (d := (eOp eInt) c14) (evs_c (ev_v rfl) evs_n) rfl (t_lead_ok q_c14)) (evs_c ev_cst evs_n)) rfl (notN_op (fun _ => rfl))) rfl rfl) k) ?_
        refine bnd h fun s15 q_s15 h => ?_
        refine bnd h fun c16 q_c16 h => ?_
        refine fin_seq (nx_set (ev_call (d := eStr c16) (evs_c (ev_op (d := eStr s15) (evs_c ev_cst (evs_c (ev_v rfl) evs_n)) rfl (rep_ok q_s15)) (evs_c (ev_v rfl) evs_n)) rfl (t_way_of_ok q_c16)) rfl rfl) ?_
        refine fin_to (p' := [.ex (.im (eInt span_)), .ex (.im ((eTup eStr) some_)), .ex (.im ((eLst (eLst (e2 eInt eInt))) c2)), .ex (.ow ((eLst (e2 eInt eStr)) s5)), .ex (.im (eStr b6)), .ex (.im ((eLst (e2 eInt eInt)) c7)), .ex (.im ((eLst (e2 eInt eInt)) c13)), .ex (.im (eStr c16)), .ex .un]) rfl ?_
        refine bnd h fun n17 q_n17 h => ?_
        refine bnd h fun found18 q_found18 h => ?_
        exact fin_nxE [0, 0, 0, 0, 2, 2, 2, 2, 0] (v := found18) (nx_appT rfl (ev_mk (d := (e2 eInt eStr) (n17, c16)) (evs_c (ev_op (d := eInt n17) (evs_c (ev_v rfl) evs_n) rfl (slen_ok q_n17)) (evs_c (ev_v rfl) evs_n)) rfl rfl) rfl rfl q_found18) rfl rfl h
      · refine t_ifF (tk (tst_of (ev_op (d := eBl c14.isSome) (evs_c (ev_call (d := (eOp eInt) c14) (evs_c (ev_v rfl) evs_n) rfl (t_lead_ok q_c14)) (evs_c ev_cst evs_n)) rfl (notN_op (fun _ => rfl))) rfl rfl) k) ?_
        exact fin_nxE [0, 0, 0, 0, 2, 2, 2, 0, 0] (v := s5) nx_skip rfl rfl h) q_s19) ?_
  refine fin_to (p' := [.ex (.im (eInt span_)), .ex (.im ((eTup eStr) some_)), .ex (.im ((eLst (eLst (e2 eInt eInt))) c2)), .ex (.ow ((eLst (e2 eInt eStr)) s19)), .soft, .soft, .soft, .soft, .ex .un]) rfl ?_
  refine bnd h fun c21 q_c21 h => ?_
  exact fin_retE (enc := (eOp eStr)) (v := c21) (t_ite (r2 := .pers ((eOp eStr) c21)) (tst_of (ev_ow rfl) rfl tr_lst) (fun k => by
    have h := ifT q_c21 k
    refine bnd h fun l20 q_l20 h => ?_
    exact ev_eq (enc := (eOp eStr)) (ev_some (e := eStr) (y := l20.2) (ev_op (d := eStr l20.2) (evs_c (ev_op (d := (e2 eInt eStr) l20) (evs_c (ev_ow rfl) evs_n) rfl (tminB_ok q_l20)) (evs_c ev_cst evs_n)) rfl rfl)) h) (fun k => by
    have h := ifF q_c21 k
    exact ev_eq (enc := (eOp eStr)) ev_cst h)) rfl rfl h (fun _ _ => trivial)
def t_law (script_ : List Int) : Option (Bool) :=
  (some (script_, 0, 5582, 0)).bind fun row1 =>
  (t__law_taken row1 5).bind fun w2 =>
  (some (1 + w2.1)).bind fun span3 =>
  (t__law_taken w2.2 7).bind fun w4 =>
  (trange1 w4.1).bind fun r5 =>
  (tcmpS (fun (b10 : Int) (s11 : (List Int) × Int × Int × Int) => (t__law_steps s11).bind fun w12 => (scut w12.1 none (some 15)).bind fun s13 => some ([s13], w12.2)) r5 w4.2).bind fun l14 =>
  (t_asked_rank span3 l14.1).bind fun c15 =>
  (imulW span3 (span3 + 1)).bind fun m16 =>
  (some (Int.fdiv m16 2)).bind fun many17 =>
  if (decide ((imin (l14.1.length : Int) many17) < c15)) = true then (
    some false)
  else (
    (t_asked_rank span3 l14.1.reverse).bind fun c18 =>
    if (!(c18 == c15)) = true then (
      some false)
    else (
      (lcat l14.1 l14.1).bind fun l19 =>
      (tcut l19 none (some 20)).bind fun t20 =>
      (t_asked_rank span3 t20).bind fun c21 =>
      if (!(c21 == c15)) = true then (
        some false)
      else (
        (tcmp (fun (b22 : List Nat) => (rep [100] span3).bind fun s23 => (scat s23 b22).bind fun s24 => (t_reduced span3 s24).bind fun c25 => some [c25]) l14.1).bind fun l26 =>
        (t_asked_rank span3 l26).bind fun c27 =>
        if (!(c27 == c15)) = true then (
          some false)
        else (
          (t_tells_all span3 l14.1).bind fun c28 =>
          if (!(c28 == (c15 == many17))) = true then (
            some false)
          else (
            (trange1 (l14.1.length : Int)).bind fun r29 =>
            (fldR (fun (b31 : Int) (s30 : Unit) =>
                (lcat (cutL l14.1 none (some b31)) (cutL l14.1 (some (b31 + 1)) none)).bind fun l32 =>
                (t_asked_rank span3 l32).bind fun c33 =>
                if (!((decide ((c15 - 1) ≤ c33)) && (decide (c33 ≤ c15)))) = true then (
                  some (.ret false))
                else (
                  some (.nxt ()))) r29 ()).bind fun c34 =>
            ctl c34 (fun (s35 : Unit) =>
              (trange1 (20 - (l14.1.length : Int))).bind fun r36 =>
              (fldR (fun (b38 : Int) (s37 : Int × (List (List Nat))) =>
                  (t_next_asking span3 s37.2).bind fun c39 =>
                  if (!(c39.isNone == (s37.1 == many17))) = true then (
                    some (.ret false))
                  else (
                    optC c39 (
                      some (.nxt (s37.1, s37.2))) (fun more40 =>
                      (tapp s37.2 more40).bind fun words41 =>
                      (some (s37.1 + 1)).bind fun rank42 =>
                      (t_asked_rank span3 words41).bind fun c43 =>
                      if (!(c43 == rank42)) = true then (
                        some (.ret false))
                      else (
                        some (.nxt (rank42, words41)))))) r36 (c15, l14.1)).bind fun c44 =>
              ctl c44 (fun (s45 : Int × (List (List Nat))) =>
                some true) (fun r => some r)) (fun r => some r))))))
theorem t_law_ok {script_ : List Int} {r9 : Bool} (h : t_law script_ = some r9) : φ_law [eScr script_] = some (eBl r9) := by
  unfold t_law at h
  unfold φ_law
  show runI _ _ _ _ = _
  unfold s_law
  refine run_I (p := [.ex (.im (eScr script_)), .ex .un, .ex .un, .ex .un, .ex .un, .ex .un, .ex .un, .ex .un, .ex .un, .ex .un, .ex .un]) rfl ?_ rfl
  refine bnd h fun row1 q_row1 h => ?_
  refine fin_seq (nx_setO (ev_eq (enc := (h4 eScr eInt eInt eInt)) (ev_mk (d := (h4 eScr eInt eInt eInt) (script_, 0, 5582, 0)) (evs_c (ev_v rfl) (evs_c ev_cst (evs_c ev_cst (evs_c ev_cst evs_n)))) rfl rfl) q_row1) rfl) ?_
  refine fin_to (p' := [.ex (.im (eScr script_)), .ex (.ow ((h4 eScr eInt eInt eInt) row1)), .ex .un, .ex .un, .ex .un, .ex .un, .ex .un, .ex .un, .ex .un, .ex .un, .ex .un]) rfl ?_
  refine bnd h fun w2 q_w2 h => ?_
  refine bnd h fun span3 q_span3 h => ?_
  refine fin_seq (nx_set (ev_eq (enc := eInt) (ev_op (d := eInt (1 + w2.1)) (evs_c ev_cst (evs_c (ev_callOo (d := eInt w2.1) (d1 := (h4 eScr eInt eInt eInt) w2.2) rfl (evs_c ev_cst evs_n) rfl rfl (t__law_taken_ok q_w2)) evs_n)) rfl rfl) q_span3) rfl rfl) ?_
  refine fin_to (p' := [.ex (.im (eScr script_)), .ex (.ow ((h4 eScr eInt eInt eInt) w2.2)), .ex (.im (eInt span3)), .ex .un, .ex .un, .ex .un, .ex .un, .ex .un, .ex .un, .ex .un, .ex .un]) rfl ?_
  refine bnd h fun w4 q_w4 h => ?_
  refine bnd h fun r5 q_r5 h => ?_
  refine bnd h fun l14 q_l14 h => ?_
  refine fin_seq (nx_set (ev_lcS (P := fun (s11 : (List Int) × Int × Int × Int) => [.ex (.im (eScr script_)), .ex (.ow ((h4 eScr eInt eInt eInt) s11)), .ex (.im (eInt span3)), .ex .un, .ex .un, .ex .un, .ex .un, .ex .un, .ex .un, .ex .un, .ex .un]) (I := eInt) (O := eStr) (s := w4.2) (it_of (g := range1F) (evs_c (ev_callOo (d := eInt w4.1) (d1 := (h4 eScr eInt eInt eInt) w4.2) rfl (evs_c ev_cst evs_n) rfl rfl (t__law_taken_ok q_w4)) evs_n) rfl (trange1_ok q_r5)) rfl rfl (fun b10 s11 ys s9 h => by
        refine bnd h fun w12 q_w12 h => ?_
        refine bnd h fun s13 q_s13 h => ?_
        cases h
        exact turnK (d1 := eStr s13) rfl evt_n (ev_op (d := eStr s13) (evs_c (ev_callOo (d := eStr w12.1) (d1 := (h4 eScr eInt eInt eInt) w12.2) rfl evs_n rfl rfl (t__law_steps_ok q_w12)) (evs_c ev_cst evs_n)) rfl (scut_ok q_s13)) rfl rfl) q_l14 rfl) rfl rfl) ?_
  refine fin_to (p' := [.ex (.im (eScr script_)), .ex (.ow ((h4 eScr eInt eInt eInt) l14.2)), .ex (.im (eInt span3)), .ex (.im ((eLst eStr) l14.1)), .ex .un, .ex .un, .ex .un, .ex .un, .ex .un, .ex .un, .ex .un]) rfl ?_
  refine bnd h fun c15 q_c15 h => ?_
  refine bnd h fun m16 q_m16 h => ?_
  refine bnd h fun many17 q_many17 h => ?_
  refine fin_seq (nx_par (evs_c (ev_call (d := eInt c15) (evs_c (ev_v rfl) (evs_c (ev_op (d := (eTup eStr) l14.1) (evs_c (ev_v rfl) evs_n) rfl rfl) evs_n)) rfl (t_asked_rank_ok q_c15)) (evs_c (ev_eq (enc := eInt) (ev_op (d := eInt (Int.fdiv m16 2)) (evs_c (ev_op (d := eInt m16) (evs_c (ev_v rfl) (evs_c (ev_op (d := eInt (span3 + 1)) (evs_c (ev_v rfl) (evs_c ev_cst evs_n)) rfl rfl) evs_n)) rfl (imulW_ok q_m16)) (evs_c ev_cst evs_n)) rfl (fdivZ_r (by decide))) q_many17) evs_n)) rfl rfl) ?_
  refine fin_to (p' := [.ex (.im (eScr script_)), .ex (.ow ((h4 eScr eInt eInt eInt) l14.2)), .ex (.im (eInt span3)), .ex (.im ((eLst eStr) l14.1)), .ex (.im (eInt c15)), .ex (.im (eInt many17)), .ex .un, .ex .un, .ex .un, .ex .un, .ex .un]) rfl ?_
  refine ifS h (fun k h => ?_) (fun k h => ?_)
  · refine t_sifT (tk (tst_of (ev_op (d := eBl (decide ((imin (l14.1.length : Int) many17) < c15))) (evs_c (ev_v rfl) (evs_c (ev_op (d := eInt (imin (l14.1.length : Int) many17)) (evs_c (ev_op (d := eInt (l14.1.length : Int)) (evs_c (ev_v rfl) evs_n) rfl len_lst) (evs_c (ev_v rfl) evs_n)) rfl rfl) evs_n)) rfl rfl) rfl rfl) k) ?_
    refine fin_seqR (P' := fun (_ : Unit) => []) ?_
    exact fin_retE (enc := eBl) (v := false) ev_cst rfl rfl h (fun _ _ => trivial)
  · refine t_sifF (tk (tst_of (ev_op (d := eBl (decide ((imin (l14.1.length : Int) many17) < c15))) (evs_c (ev_v rfl) (evs_c (ev_op (d := eInt (imin (l14.1.length : Int) many17)) (evs_c (ev_op (d := eInt (l14.1.length : Int)) (evs_c (ev_v rfl) evs_n) rfl len_lst) (evs_c (ev_v rfl) evs_n)) rfl rfl) evs_n)) rfl rfl) rfl rfl) k) ?_
    refine fin_skip ?_
    refine bnd h fun c18 q_c18 h => ?_
    refine ifS h (fun k h => ?_) (fun k h => ?_)
    · refine t_sifT (tk (tst_of (ev_op (d := eBl (!(c18 == c15))) (evs_c (ev_call (d := eInt c18) (evs_c (ev_v rfl) (evs_c (ev_op (d := (eTup eStr) l14.1.reverse) (evs_c (ev_op (d := (eLst eStr) l14.1.reverse) (evs_c (ev_v rfl) evs_n) rfl revL_ok) evs_n) rfl rfl) evs_n)) rfl (t_asked_rank_ok q_c18)) (evs_c (ev_v rfl) evs_n)) rfl (ne_sc eqe_int (x := c18) (y := c15) rfl)) rfl rfl) k) ?_
      refine fin_seqR (P' := fun (_ : Unit) => []) ?_
      exact fin_retE (enc := eBl) (v := false) ev_cst rfl rfl h (fun _ _ => trivial)
    · refine t_sifF (tk (tst_of (ev_op (d := eBl (!(c18 == c15))) (evs_c (ev_call (d := eInt c18) (evs_c (ev_v rfl) (evs_c (ev_op (d := (eTup eStr) l14.1.reverse) (evs_c (ev_op (d := (eLst eStr) l14.1.reverse) (evs_c (ev_v rfl) evs_n) rfl revL_ok) evs_n) rfl rfl) evs_n)) rfl (t_asked_rank_ok q_c18)) (evs_c (ev_v rfl) evs_n)) rfl (ne_sc eqe_int (x := c18) (y := c15) rfl)) rfl rfl) k) ?_
      refine fin_skip ?_
      refine bnd h fun l19 q_l19 h => ?_
      refine bnd h fun t20 q_t20 h => ?_
      refine bnd h fun c21 q_c21 h => ?_
      refine ifS h (fun k h => ?_) (fun k h => ?_)
      · refine t_sifT (tk (tst_of (ev_op (d := eBl (!(c21 == c15))) (evs_c (ev_call (d := eInt c21) (evs_c (ev_v rfl) (evs_c (ev_op (d := (eTup eStr) t20) (evs_c (ev_op (d := (eTup eStr) l19) (evs_c (ev_op (d := (eLst eStr) l19) (evs_c (ev_v rfl) (evs_c (ev_v rfl) evs_n)) rfl (lcat_ok q_l19)) evs_n) rfl rfl) (evs_c ev_cst evs_n)) rfl (tcut_ok q_t20)) evs_n)) rfl (t_asked_rank_ok q_c21)) (evs_c (ev_v rfl) evs_n)) rfl (ne_sc eqe_int (x := c21) (y := c15) rfl)) rfl rfl) k) ?_
        refine fin_seqR (P' := fun (_ : Unit) => []) ?_
        exact fin_retE (enc := eBl) (v := false) ev_cst rfl rfl h (fun _ _ => trivial)
      · refine t_sifF (tk (tst_of (ev_op (d := eBl (!(c21 == c15))) (evs_c (ev_call (d := eInt c21) (evs_c (ev_v rfl) (evs_c (ev_op (d := (eTup eStr) t20) (evs_c (ev_op (d := (eTup eStr) l19) (evs_c (ev_op (d := (eLst eStr) l19) (evs_c (ev_v rfl) (evs_c (ev_v rfl) evs_n)) rfl (lcat_ok q_l19)) evs_n) rfl rfl) (evs_c ev_cst evs_n)) rfl (tcut_ok q_t20)) evs_n)) rfl (t_asked_rank_ok q_c21)) (evs_c (ev_v rfl) evs_n)) rfl (ne_sc eqe_int (x := c21) (y := c15) rfl)) rfl rfl) k) ?_
        refine fin_skip ?_
        refine bnd h fun l26 q_l26 h => ?_
        refine bnd h fun c27 q_c27 h => ?_
        refine ifS h (fun k h => ?_) (fun k h => ?_)
        · refine t_sifT (tk (tst_of (ev_op (d := eBl (!(c27 == c15))) (evs_c (ev_call (d := eInt c27) (evs_c (ev_v rfl) (evs_c (ev_op (d := (eTup eStr) l26) (evs_c (ev_lcU (I := eStr) (O := eStr) (pw := [.ex (.im (eScr script_)), .ex (.ow ((h4 eScr eInt eInt eInt) l14.2)), .ex (.im (eInt span3)), .ex (.im ((eLst eStr) l14.1)), .ex (.im (eInt c15)), .ex (.im (eInt many17)), .ex .un, .ex .un, .ex .un, .ex .un, .ex .un]) (it_of (g := itemsF) (evs_c (ev_v rfl) evs_n) rfl it_lst) rfl rfl (fun b22 ys h => by
                refine bnd h fun s23 q_s23 h => ?_
                refine bnd h fun s24 q_s24 h => ?_
                refine bnd h fun c25 q_c25 h => ?_
                cases h
                exact turnK (d1 := eStr c25) rfl evt_n (ev_call (d := eStr c25) (evs_c (ev_v rfl) (evs_c (ev_op (d := eStr s24) (evs_c (ev_op (d := eStr s23) (evs_c ev_cst (evs_c (ev_v rfl) evs_n)) rfl (rep_ok q_s23)) (evs_c (ev_v rfl) evs_n)) rfl (scat_ok q_s24)) evs_n)) rfl (t_reduced_ok q_c25)) rfl rfl) q_l26 rfl) evs_n) rfl rfl) evs_n)) rfl (t_asked_rank_ok q_c27)) (evs_c (ev_v rfl) evs_n)) rfl (ne_sc eqe_int (x := c27) (y := c15) rfl)) rfl rfl) k) ?_
          refine fin_seqR (P' := fun (_ : Unit) => []) ?_
          exact fin_retE (enc := eBl) (v := false) ev_cst rfl rfl h (fun _ _ => trivial)
        · refine t_sifF (tk (tst_of (ev_op (d := eBl (!(c27 == c15))) (evs_c (ev_call (d := eInt c27) (evs_c (ev_v rfl) (evs_c (ev_op (d := (eTup eStr) l26) (evs_c (ev_lcU (I := eStr) (O := eStr) (pw := [.ex (.im (eScr script_)), .ex (.ow ((h4 eScr eInt eInt eInt) l14.2)), .ex (.im (eInt span3)), .ex (.im ((eLst eStr) l14.1)), .ex (.im (eInt c15)), .ex (.im (eInt many17)), .ex .un, .ex .un, .ex .un, .ex .un, .ex .un]) (it_of (g := itemsF) (evs_c (ev_v rfl) evs_n) rfl it_lst) rfl rfl (fun b22 ys h => by
                refine bnd h fun s23 q_s23 h => ?_
                refine bnd h fun s24 q_s24 h => ?_
                refine bnd h fun c25 q_c25 h => ?_
                cases h
                exact turnK (d1 := eStr c25) rfl evt_n (ev_call (d := eStr c25) (evs_c (ev_v rfl) (evs_c (ev_op (d := eStr s24) (evs_c (ev_op (d := eStr s23) (evs_c ev_cst (evs_c (ev_v rfl) evs_n)) rfl (rep_ok q_s23)) (evs_c (ev_v rfl) evs_n)) rfl (scat_ok q_s24)) evs_n)) rfl (t_reduced_ok q_c25)) rfl rfl) q_l26 rfl) evs_n) rfl rfl) evs_n)) rfl (t_asked_rank_ok q_c27)) (evs_c (ev_v rfl) evs_n)) rfl (ne_sc eqe_int (x := c27) (y := c15) rfl)) rfl rfl) k) ?_
          refine fin_skip ?_
          refine bnd h fun c28 q_c28 h => ?_
          refine ifS h (fun k h => ?_) (fun k h => ?_)
          · refine t_sifT (tk (tst_of (ev_op (d := eBl (!(c28 == (c15 == many17)))) (evs_c (ev_call (d := eBl c28) (evs_c (ev_v rfl) (evs_c (ev_op (d := (eTup eStr) l14.1) (evs_c (ev_v rfl) evs_n) rfl rfl) evs_n)) rfl (t_tells_all_ok q_c28)) (evs_c (ev_op (d := eBl (c15 == many17)) (evs_c (ev_v rfl) (evs_c (ev_v rfl) evs_n)) rfl (eq_sc eqe_int (x := c15) (y := many17) rfl)) evs_n)) rfl (ne_sc eqe_bl (x := c28) (y := c15 == many17) rfl)) rfl rfl) k) ?_
            refine fin_seqR (P' := fun (_ : Unit) => []) ?_
            exact fin_retE (enc := eBl) (v := false) ev_cst rfl rfl h (fun _ _ => trivial)
          · refine t_sifF (tk (tst_of (ev_op (d := eBl (!(c28 == (c15 == many17)))) (evs_c (ev_call (d := eBl c28) (evs_c (ev_v rfl) (evs_c (ev_op (d := (eTup eStr) l14.1) (evs_c (ev_v rfl) evs_n) rfl rfl) evs_n)) rfl (t_tells_all_ok q_c28)) (evs_c (ev_op (d := eBl (c15 == many17)) (evs_c (ev_v rfl) (evs_c (ev_v rfl) evs_n)) rfl (eq_sc eqe_int (x := c15) (y := many17) rfl)) evs_n)) rfl (ne_sc eqe_bl (x := c28) (y := c15 == many17) rfl)) rfl rfl) k) ?_
            refine fin_skip ?_
            refine bnd h fun r29 q_r29 h => ?_
            refine bnd h fun c34 q_c34 h => ?_
            cases c34 with
            | nxt s35 =>
              refine fin_seqJ (st := s35) (P' := fun (s30 : Unit) => [.ex (.im (eScr script_)), .ex (.ow ((h4 eScr eInt eInt eInt) l14.2)), .ex (.im (eInt span3)), .ex (.im ((eLst eStr) l14.1)), .ex (.im (eInt c15)), .ex (.im (eInt many17)), .soft, .ex .un, .ex .un, .ex .un, .ex .un]) ?_ ?_
              · exact st_forR (I := eInt) (P := fun (s30 : Unit) => [.ex (.im (eScr script_)), .ex (.ow ((h4 eScr eInt eInt eInt) l14.2)), .ex (.im (eInt span3)), .ex (.im ((eLst eStr) l14.1)), .ex (.im (eInt c15)), .ex (.im (eInt many17)), .soft, .ex .un, .ex .un, .ex .un, .ex .un]) (st := ()) (it_of (g := range1F) (evs_c (ev_op (d := eInt (l14.1.length : Int)) (evs_c (ev_v rfl) evs_n) rfl len_lst) evs_n) rfl (trange1_ok q_r29)) [0, 0, 0, 0, 0, 0, 2, 0, 0, 0, 0] rfl rfl (fun b31 s30 c9 h => by
                    refine ⟨_, rfl, ?_⟩
                    refine fin_to (p' := [.ex (.im (eScr script_)), .ex (.ow ((h4 eScr eInt eInt eInt) l14.2)), .ex (.im (eInt span3)), .ex (.im ((eLst eStr) l14.1)), .ex (.im (eInt c15)), .ex (.im (eInt many17)), .ex (.im (eInt b31)), .ex .un, .ex .un, .ex .un, .ex .un]) rfl ?_
                    refine bnd h fun l32 q_l32 h => ?_
                    refine bnd h fun c33 q_c33 h => ?_
                    refine ifS h (fun k h => ?_) (fun k h => ?_)
                    · refine t_ifT (tk (tst_of (not_tst (tst_of (ev_chain (a := decide ((c15 - 1) ≤ c33)) (b := decide (c33 ≤ c15)) (ev_op (d := eInt (c15 - 1)) (evs_c (ev_v rfl) (evs_c ev_cst evs_n)) rfl rfl) (ev_call (d := eInt c33) (evs_c (ev_v rfl) (evs_c (ev_op (d := (eTup eStr) l32) (evs_c (ev_op (d := (eLst eStr) l32) (evs_c (ev_op (d := (eLst eStr) (cutL l14.1 none (some b31))) (evs_c (ev_v rfl) (evs_c (ev_v rfl) evs_n)) rfl lcut_ok) (evs_c (ev_op (d := (eLst eStr) (cutL l14.1 (some (b31 + 1)) none)) (evs_c (ev_v rfl) (evs_c (ev_op (d := eInt (b31 + 1)) (evs_c (ev_v rfl) (evs_c ev_cst evs_n)) rfl rfl) evs_n)) rfl lcut_ok) evs_n)) rfl (lcat_ok q_l32)) evs_n) rfl rfl) evs_n)) rfl (t_asked_rank_ok q_c33)) rfl rfl (fun _ => (ev_v rfl)) rfl (fun _ => rfl)) rfl rfl)) rfl rfl) k) ?_
                      cases h
                      exact fin_retE (enc := eBl) (v := false) ev_cst rfl rfl rfl (fun _ _ => trivial)
                    · refine t_ifF (tk (tst_of (not_tst (tst_of (ev_chain (a := decide ((c15 - 1) ≤ c33)) (b := decide (c33 ≤ c15)) (ev_op (d := eInt (c15 - 1)) (evs_c (ev_v rfl) (evs_c ev_cst evs_n)) rfl rfl) (ev_call (d := eInt c33) (evs_c (ev_v rfl) (evs_c (ev_op (d := (eTup eStr) l32) (evs_c (ev_op (d := (eLst eStr) l32) (evs_c (ev_op (d := (eLst eStr) (cutL l14.1 none (some b31))) (evs_c (ev_v rfl) (evs_c (ev_v rfl) evs_n)) rfl lcut_ok) (evs_c (ev_op (d := (eLst eStr) (cutL l14.1 (some (b31 + 1)) none)) (evs_c (ev_v rfl) (evs_c (ev_op (d := eInt (b31 + 1)) (evs_c (ev_v rfl) (evs_c ev_cst evs_n)) rfl rfl) evs_n)) rfl lcut_ok) evs_n)) rfl (lcat_ok q_l32)) evs_n) rfl rfl) evs_n)) rfl (t_asked_rank_ok q_c33)) rfl rfl (fun _ => (ev_v rfl)) rfl (fun _ => rfl)) rfl rfl)) rfl rfl) k) ?_
                      cases h
                      exact fin_nx [0, 0, 0, 0, 0, 0, 2, 0, 0, 0, 0] nx_skip rfl rfl) q_c34
              · replace h := ctl_n h
                refine fin_seq (nx_setO (ev_op (d := (eLst eStr) l14.1) (evs_c (ev_v rfl) evs_n) rfl rfl) rfl) ?_
                refine fin_to (p' := [.ex (.im (eScr script_)), .ex (.ow ((h4 eScr eInt eInt eInt) l14.2)), .ex (.im (eInt span3)), .ex (.im ((eLst eStr) l14.1)), .ex (.im (eInt c15)), .ex (.im (eInt many17)), .soft, .ex (.ow ((eLst eStr) l14.1)), .ex .un, .ex .un, .ex .un]) rfl ?_
                refine bnd h fun r36 q_r36 h => ?_
                refine bnd h fun c44 q_c44 h => ?_
                cases c44 with
                | nxt s45 =>
                  refine fin_seqJ (st := s45) (P' := fun (s37 : Int × (List (List Nat))) => [.ex (.im (eScr script_)), .ex (.ow ((h4 eScr eInt eInt eInt) l14.2)), .ex (.im (eInt span3)), .ex (.im ((eLst eStr) l14.1)), .ex (.im (eInt s37.1)), .ex (.im (eInt many17)), .soft, .ex (.ow ((eLst eStr) s37.2)), .soft, .soft, .ex .un]) ?_ ?_
                  · exact st_forR (I := eInt) (P := fun (s37 : Int × (List (List Nat))) => [.ex (.im (eScr script_)), .ex (.ow ((h4 eScr eInt eInt eInt) l14.2)), .ex (.im (eInt span3)), .ex (.im ((eLst eStr) l14.1)), .ex (.im (eInt s37.1)), .ex (.im (eInt many17)), .soft, .ex (.ow ((eLst eStr) s37.2)), .soft, .soft, .ex .un]) (st := (c15, l14.1)) (it_of (g := range1F) (evs_c (ev_op (d := eInt (20 - (l14.1.length : Int))) (evs_c ev_cst (evs_c (ev_op (d := eInt (l14.1.length : Int)) (evs_c (ev_v rfl) evs_n) rfl len_lst) evs_n)) rfl rfl) evs_n) rfl (trange1_ok q_r36)) [0, 0, 0, 0, 0, 0, 0, 0, 2, 2, 0] rfl rfl (fun b38 s37 c9 h => by
                        refine ⟨_, rfl, ?_⟩
                        refine fin_to (p' := [.ex (.im (eScr script_)), .ex (.ow ((h4 eScr eInt eInt eInt) l14.2)), .ex (.im (eInt span3)), .ex (.im ((eLst eStr) l14.1)), .ex (.im (eInt s37.1)), .ex (.im (eInt many17)), .soft, .ex (.ow ((eLst eStr) s37.2)), .ex (.im (eInt b38)), .soft, .ex .un]) rfl ?_
                        refine bnd h fun c39 q_c39 h => ?_
                        refine fin_seq (nx_set (ev_call (d := (eOp eStr) c39) (evs_c (ev_v rfl) (evs_c (ev_op (d := (eTup eStr) s37.2) (evs_c (ev_ow rfl) evs_n) rfl rfl) evs_n)) rfl (t_next_asking_ok q_c39)) rfl rfl) ?_
                        refine fin_to (p' := [.ex (.im (eScr script_)), .ex (.ow ((h4 eScr eInt eInt eInt) l14.2)), .ex (.im (eInt span3)), .ex (.im ((eLst eStr) l14.1)), .ex (.im (eInt s37.1)), .ex (.im (eInt many17)), .soft, .ex (.ow ((eLst eStr) s37.2)), .ex (.im (eInt b38)), .ex (.im ((eOp eStr) c39)), .ex .un]) rfl ?_
                        refine ifS h (fun k h => ?_) (fun k h => ?_)
                        · refine t_sifT (tk (tst_of (ev_op (d := eBl (!(c39.isNone == (s37.1 == many17)))) (evs_c (ev_op (d := eBl c39.isNone) (evs_c (ev_v rfl) (evs_c ev_cst evs_n)) rfl (isN_op (fun _ => rfl))) (evs_c (ev_op (d := eBl (s37.1 == many17)) (evs_c (ev_v rfl) (evs_c (ev_v rfl) evs_n)) rfl (eq_sc eqe_int (x := s37.1) (y := many17) rfl)) evs_n)) rfl (ne_sc eqe_bl (x := c39.isNone) (y := s37.1 == many17) rfl)) rfl rfl) k) ?_
                          cases h
                          refine fin_seqR (P' := fun (s37 : Int × (List (List Nat))) => [.ex (.im (eScr script_)), .ex (.ow ((h4 eScr eInt eInt eInt) l14.2)), .ex (.im (eInt span3)), .ex (.im ((eLst eStr) l14.1)), .ex (.im (eInt s37.1)), .ex (.im (eInt many17)), .soft, .ex (.ow ((eLst eStr) s37.2)), .soft, .soft, .ex .un]) ?_
                          exact fin_retE (enc := eBl) (v := false) ev_cst rfl rfl rfl (fun _ _ => trivial)
                        · refine t_sifF (tk (tst_of (ev_op (d := eBl (!(c39.isNone == (s37.1 == many17)))) (evs_c (ev_op (d := eBl c39.isNone) (evs_c (ev_v rfl) (evs_c ev_cst evs_n)) rfl (isN_op (fun _ => rfl))) (evs_c (ev_op (d := eBl (s37.1 == many17)) (evs_c (ev_v rfl) (evs_c (ev_v rfl) evs_n)) rfl (eq_sc eqe_int (x := s37.1) (y := many17) rfl)) evs_n)) rfl (ne_sc eqe_bl (x := c39.isNone) (y := s37.1 == many17) rfl)) rfl rfl) k) ?_
                          refine fin_skip ?_
                          cases c39 with
                          | none =>
                            refine fin_to (p' := [.ex (.im (eScr script_)), .ex (.ow ((h4 eScr eInt eInt eInt) l14.2)), .ex (.im (eInt span3)), .ex (.im ((eLst eStr) l14.1)), .ex (.im (eInt s37.1)), .ex (.im (eInt many17)), .soft, .ex (.ow ((eLst eStr) s37.2)), .ex (.im (eInt b38)), .ex (.im (eNo ())), .ex .un]) rfl ?_
                            refine t_ifF (tst_of (ev_op (d := eBl false) (evs_c (ev_v rfl) (evs_c ev_cst evs_n)) rfl rfl) rfl rfl) ?_
                            cases h
                            exact fin_nx [0, 0, 0, 0, 0, 0, 0, 0, 2, 2, 0] nx_skip rfl rfl
                          | some more40 =>
                            refine fin_to (p' := [.ex (.im (eScr script_)), .ex (.ow ((h4 eScr eInt eInt eInt) l14.2)), .ex (.im (eInt span3)), .ex (.im ((eLst eStr) l14.1)), .ex (.im (eInt s37.1)), .ex (.im (eInt many17)), .soft, .ex (.ow ((eLst eStr) s37.2)), .ex (.im (eInt b38)), .ex (.im (eStr more40)), .ex .un]) rfl ?_
                            refine t_ifT (tst_of (ev_op (d := eBl true) (evs_c (ev_v rfl) (evs_c ev_cst evs_n)) rfl rfl) rfl rfl) ?_
                            refine bnd h fun words41 q_words41 h => ?_
                            refine fin_seq (nx_appT rfl (ev_v rfl) rfl rfl q_words41) ?_
                            refine fin_to (p' := [.ex (.im (eScr script_)), .ex (.ow ((h4 eScr eInt eInt eInt) l14.2)), .ex (.im (eInt span3)), .ex (.im ((eLst eStr) l14.1)), .ex (.im (eInt s37.1)), .ex (.im (eInt many17)), .soft, .ex (.ow ((eLst eStr) words41)), .ex (.im (eInt b38)), .ex (.im (eStr more40)), .ex .un]) rfl ?_
                            refine bnd h fun rank42 q_rank42 h => ?_
                            refine fin_seq (nx_set (ev_eq (enc := eInt) (ev_op (d := eInt (s37.1 + 1)) (evs_c (ev_v rfl) (evs_c ev_cst evs_n)) rfl rfl) q_rank42) rfl rfl) ?_
                            refine fin_to (p' := [.ex (.im (eScr script_)), .ex (.ow ((h4 eScr eInt eInt eInt) l14.2)), .ex (.im (eInt span3)), .ex (.im ((eLst eStr) l14.1)), .ex (.im (eInt rank42)), .ex (.im (eInt many17)), .soft, .ex (.ow ((eLst eStr) words41)), .ex (.im (eInt b38)), .ex (.im (eStr more40)), .ex .un]) rfl ?_
                            refine bnd h fun c43 q_c43 h => ?_
                            refine ifS h (fun k h => ?_) (fun k h => ?_)
                            · refine t_ifT (tk (tst_of (ev_op (d := eBl (!(c43 == rank42))) (evs_c (ev_call (d := eInt c43) (evs_c (ev_v rfl) (evs_c (ev_op (d := (eTup eStr) words41) (evs_c (ev_ow rfl) evs_n) rfl rfl) evs_n)) rfl (t_asked_rank_ok q_c43)) (evs_c (ev_v rfl) evs_n)) rfl (ne_sc eqe_int (x := c43) (y := rank42) rfl)) rfl rfl) k) ?_
                              cases h
                              exact fin_retE (enc := eBl) (v := false) ev_cst rfl rfl rfl (fun _ _ => trivial)
                            · refine t_ifF (tk (tst_of (ev_op (d := eBl (!(c43 == rank42))) (evs_c (ev_call (d := eInt c43) (evs_c (ev_v rfl) (evs_c (ev_op (d := (eTup eStr) words41) (evs_c (ev_ow rfl) evs_n) rfl rfl) evs_n)) rfl (t_asked_rank_ok q_c43)) (evs_c (ev_v rfl) evs_n)) rfl (ne_sc eqe_int (x := c43) (y := rank42) rfl)) rfl rfl) k) ?_
                              cases h
                              exact fin_nx [0, 0, 0, 0, 0, 0, 0, 0, 2, 2, 0] nx_skip rfl rfl) q_c44
                  · exact fin_retE (enc := eBl) (v := true) ev_cst rfl rfl h (fun _ _ => trivial)
                | brk s45 => exact (fldR_nobrk q_c44).elim
                | ret r =>
                  have e9 := Option.some.inj h
                  subst e9
                  exact fin_seqR (P' := fun (s37 : Int × (List (List Nat))) => [.ex (.im (eScr script_)), .ex (.ow ((h4 eScr eInt eInt eInt) l14.2)), .ex (.im (eInt span3)), .ex (.im ((eLst eStr) l14.1)), .ex (.im (eInt s37.1)), .ex (.im (eInt many17)), .soft, .ex (.ow ((eLst eStr) s37.2)), .soft, .soft, .ex .un]) (st_forR (I := eInt) (P := fun (s37 : Int × (List (List Nat))) => [.ex (.im (eScr script_)), .ex (.ow ((h4 eScr eInt eInt eInt) l14.2)), .ex (.im (eInt span3)), .ex (.im ((eLst eStr) l14.1)), .ex (.im (eInt s37.1)), .ex (.im (eInt many17)), .soft, .ex (.ow ((eLst eStr) s37.2)), .soft, .soft, .ex .un]) (st := (c15, l14.1)) (it_of (g := range1F) (evs_c (ev_op (d := eInt (20 - (l14.1.length : Int))) (evs_c ev_cst (evs_c (ev_op (d := eInt (l14.1.length : Int)) (evs_c (ev_v rfl) evs_n) rfl len_lst) evs_n)) rfl rfl) evs_n) rfl (trange1_ok q_r36)) [0, 0, 0, 0, 0, 0, 0, 0, 2, 2, 0] rfl rfl (fun b38 s37 c9 h => by
                      refine ⟨_, rfl, ?_⟩
                      refine fin_to (p' := [.ex (.im (eScr script_)), .ex (.ow ((h4 eScr eInt eInt eInt) l14.2)), .ex (.im (eInt span3)), .ex (.im ((eLst eStr) l14.1)), .ex (.im (eInt s37.1)), .ex (.im (eInt many17)), .soft, .ex (.ow ((eLst eStr) s37.2)), .ex (.im (eInt b38)), .soft, .ex .un]) rfl ?_
                      refine bnd h fun c39 q_c39 h => ?_
                      refine fin_seq (nx_set (ev_call (d := (eOp eStr) c39) (evs_c (ev_v rfl) (evs_c (ev_op (d := (eTup eStr) s37.2) (evs_c (ev_ow rfl) evs_n) rfl rfl) evs_n)) rfl (t_next_asking_ok q_c39)) rfl rfl) ?_
                      refine fin_to (p' := [.ex (.im (eScr script_)), .ex (.ow ((h4 eScr eInt eInt eInt) l14.2)), .ex (.im (eInt span3)), .ex (.im ((eLst eStr) l14.1)), .ex (.im (eInt s37.1)), .ex (.im (eInt many17)), .soft, .ex (.ow ((eLst eStr) s37.2)), .ex (.im (eInt b38)), .ex (.im ((eOp eStr) c39)), .ex .un]) rfl ?_
                      refine ifS h (fun k h => ?_) (fun k h => ?_)
                      · refine t_sifT (tk (tst_of (ev_op (d := eBl (!(c39.isNone == (s37.1 == many17)))) (evs_c (ev_op (d := eBl c39.isNone) (evs_c (ev_v rfl) (evs_c ev_cst evs_n)) rfl (isN_op (fun _ => rfl))) (evs_c (ev_op (d := eBl (s37.1 == many17)) (evs_c (ev_v rfl) (evs_c (ev_v rfl) evs_n)) rfl (eq_sc eqe_int (x := s37.1) (y := many17) rfl)) evs_n)) rfl (ne_sc eqe_bl (x := c39.isNone) (y := s37.1 == many17) rfl)) rfl rfl) k) ?_
                        cases h
                        refine fin_seqR (P' := fun (s37 : Int × (List (List Nat))) => [.ex (.im (eScr script_)), .ex (.ow ((h4 eScr eInt eInt eInt) l14.2)), .ex (.im (eInt span3)), .ex (.im ((eLst eStr) l14.1)), .ex (.im (eInt s37.1)), .ex (.im (eInt many17)), .soft, .ex (.ow ((eLst eStr) s37.2)), .soft, .soft, .ex .un]) ?_
                        exact fin_retE (enc := eBl) (v := false) ev_cst rfl rfl rfl (fun _ _ => trivial)
                      · refine t_sifF (tk (tst_of (ev_op (d := eBl (!(c39.isNone == (s37.1 == many17)))) (evs_c (ev_op (d := eBl c39.isNone) (evs_c (ev_v rfl) (evs_c ev_cst evs_n)) rfl (isN_op (fun _ => rfl))) (evs_c (ev_op (d := eBl (s37.1 == many17)) (evs_c (ev_v rfl) (evs_c (ev_v rfl) evs_n)) rfl (eq_sc eqe_int (x := s37.1) (y := many17) rfl)) evs_n)) rfl (ne_sc eqe_bl (x := c39.isNone) (y := s37.1 == many17) rfl)) rfl rfl) k) ?_
                        refine fin_skip ?_
                        cases c39 with
                        | none =>
                          refine fin_to (p' := [.ex (.im (eScr script_)), .ex (.ow ((h4 eScr eInt eInt eInt) l14.2)), .ex (.im (eInt span3)), .ex (.im ((eLst eStr) l14.1)), .ex (.im (eInt s37.1)), .ex (.im (eInt many17)), .soft, .ex (.ow ((eLst eStr) s37.2)), .ex (.im (eInt b38)), .ex (.im (eNo ())), .ex .un]) rfl ?_
                          refine t_ifF (tst_of (ev_op (d := eBl false) (evs_c (ev_v rfl) (evs_c ev_cst evs_n)) rfl rfl) rfl rfl) ?_
                          cases h
                          exact fin_nx [0, 0, 0, 0, 0, 0, 0, 0, 2, 2, 0] nx_skip rfl rfl
                        | some more40 =>
                          refine fin_to (p' := [.ex (.im (eScr script_)), .ex (.ow ((h4 eScr eInt eInt eInt) l14.2)), .ex (.im (eInt span3)), .ex (.im ((eLst eStr) l14.1)), .ex (.im (eInt s37.1)), .ex (.im (eInt many17)), .soft, .ex (.ow ((eLst eStr) s37.2)), .ex (.im (eInt b38)), .ex (.im (eStr more40)), .ex .un]) rfl ?_
                          refine t_ifT (tst_of (ev_op (d := eBl true) (evs_c (ev_v rfl) (evs_c ev_cst evs_n)) rfl rfl) rfl rfl) ?_
                          refine bnd h fun words41 q_words41 h => ?_
                          refine fin_seq (nx_appT rfl (ev_v rfl) rfl rfl q_words41) ?_
                          refine fin_to (p' := [.ex (.im (eScr script_)), .ex (.ow ((h4 eScr eInt eInt eInt) l14.2)), .ex (.im (eInt span3)), .ex (.im ((eLst eStr) l14.1)), .ex (.im (eInt s37.1)), .ex (.im (eInt many17)), .soft, .ex (.ow ((eLst eStr) words41)), .ex (.im (eInt b38)), .ex (.im (eStr more40)), .ex .un]) rfl ?_
                          refine bnd h fun rank42 q_rank42 h => ?_
                          refine fin_seq (nx_set (ev_eq (enc := eInt) (ev_op (d := eInt (s37.1 + 1)) (evs_c (ev_v rfl) (evs_c ev_cst evs_n)) rfl rfl) q_rank42) rfl rfl) ?_
                          refine fin_to (p' := [.ex (.im (eScr script_)), .ex (.ow ((h4 eScr eInt eInt eInt) l14.2)), .ex (.im (eInt span3)), .ex (.im ((eLst eStr) l14.1)), .ex (.im (eInt rank42)), .ex (.im (eInt many17)), .soft, .ex (.ow ((eLst eStr) words41)), .ex (.im (eInt b38)), .ex (.im (eStr more40)), .ex .un]) rfl ?_
                          refine bnd h fun c43 q_c43 h => ?_
                          refine ifS h (fun k h => ?_) (fun k h => ?_)
                          · refine t_ifT (tk (tst_of (ev_op (d := eBl (!(c43 == rank42))) (evs_c (ev_call (d := eInt c43) (evs_c (ev_v rfl) (evs_c (ev_op (d := (eTup eStr) words41) (evs_c (ev_ow rfl) evs_n) rfl rfl) evs_n)) rfl (t_asked_rank_ok q_c43)) (evs_c (ev_v rfl) evs_n)) rfl (ne_sc eqe_int (x := c43) (y := rank42) rfl)) rfl rfl) k) ?_
                            cases h
                            exact fin_retE (enc := eBl) (v := false) ev_cst rfl rfl rfl (fun _ _ => trivial)
                          · refine t_ifF (tk (tst_of (ev_op (d := eBl (!(c43 == rank42))) (evs_c (ev_call (d := eInt c43) (evs_c (ev_v rfl) (evs_c (ev_op (d := (eTup eStr) words41) (evs_c (ev_ow rfl) evs_n) rfl rfl) evs_n)) rfl (t_asked_rank_ok q_c43)) (evs_c (ev_v rfl) evs_n)) rfl (ne_sc eqe_int (x := c43) (y := rank42) rfl)) rfl rfl) k) ?_
                            cases h
                            exact fin_nx [0, 0, 0, 0, 0, 0, 0, 0, 2, 2, 0] nx_skip rfl rfl) q_c44)
            | brk s35 => exact (fldR_nobrk q_c34).elim
            | ret r =>
              have e9 := Option.some.inj h
              subst e9
              exact fin_seqR (P' := fun (s30 : Unit) => [.ex (.im (eScr script_)), .ex (.ow ((h4 eScr eInt eInt eInt) l14.2)), .ex (.im (eInt span3)), .ex (.im ((eLst eStr) l14.1)), .ex (.im (eInt c15)), .ex (.im (eInt many17)), .soft, .ex .un, .ex .un, .ex .un, .ex .un]) (st_forR (I := eInt) (P := fun (s30 : Unit) => [.ex (.im (eScr script_)), .ex (.ow ((h4 eScr eInt eInt eInt) l14.2)), .ex (.im (eInt span3)), .ex (.im ((eLst eStr) l14.1)), .ex (.im (eInt c15)), .ex (.im (eInt many17)), .soft, .ex .un, .ex .un, .ex .un, .ex .un]) (st := ()) (it_of (g := range1F) (evs_c (ev_op (d := eInt (l14.1.length : Int)) (evs_c (ev_v rfl) evs_n) rfl len_lst) evs_n) rfl (trange1_ok q_r29)) [0, 0, 0, 0, 0, 0, 2, 0, 0, 0, 0] rfl rfl (fun b31 s30 c9 h => by
                  refine ⟨_, rfl, ?_⟩
                  refine fin_to (p' := [.ex (.im (eScr script_)), .ex (.ow ((h4 eScr eInt eInt eInt) l14.2)), .ex (.im (eInt span3)), .ex (.im ((eLst eStr) l14.1)), .ex (.im (eInt c15)), .ex (.im (eInt many17)), .ex (.im (eInt b31)), .ex .un, .ex .un, .ex .un, .ex .un]) rfl ?_
                  refine bnd h fun l32 q_l32 h => ?_
                  refine bnd h fun c33 q_c33 h => ?_
                  refine ifS h (fun k h => ?_) (fun k h => ?_)
                  · refine t_ifT (tk (tst_of (not_tst (tst_of (ev_chain (a := decide ((c15 - 1) ≤ c33)) (b := decide (c33 ≤ c15)) (ev_op (d := eInt (c15 - 1)) (evs_c (ev_v rfl) (evs_c ev_cst evs_n)) rfl rfl) (ev_call (d := eInt c33) (evs_c (ev_v rfl) (evs_c (ev_op (d := (eTup eStr) l32) (evs_c (ev_op (d := (eLst eStr) l32) (evs_c (ev_op (d := (eLst eStr) (cutL l14.1 none (some b31))) (evs_c (ev_v rfl) (evs_c (ev_v rfl) evs_n)) rfl lcut_ok) (evs_c (ev_op (d := (eLst eStr) (cutL l14.1 (some (b31 + 1)) none)) (evs_c (ev_v rfl) (evs_c (ev_op (d := eInt (b31 + 1)) (evs_c (ev_v rfl) (evs_c ev_cst evs_n)) rfl rfl) evs_n)) rfl lcut_ok) evs_n)) rfl (lcat_ok q_l32)) evs_n) rfl rfl) evs_n)) rfl (t_asked_rank_ok q_c33)) rfl rfl (fun _ => (ev_v rfl)) rfl (fun _ => rfl)) rfl rfl)) rfl rfl) k) ?_
                    cases h
                    exact fin_retE (enc := eBl) (v := false) ev_cst rfl rfl rfl (fun _ _ => trivial)
                  · refine t_ifF (tk (tst_of (not_tst (tst_of (ev_chain (a := decide ((c15 - 1) ≤ c33)) (b := decide (c33 ≤ c15)) (ev_op (d := eInt (c15 - 1)) (evs_c (ev_v rfl) (evs_c ev_cst evs_n)) rfl rfl) (ev_call (d := eInt c33) (evs_c (ev_v rfl) (evs_c (ev_op (d := (eTup eStr) l32) (evs_c (ev_op (d := (eLst eStr) l32) (evs_c (ev_op (d := (eLst eStr) (cutL l14.1 none (some b31))) (evs_c (ev_v rfl) (evs_c (ev_v rfl) evs_n)) rfl lcut_ok) (evs_c (ev_op (d := (eLst eStr) (cutL l14.1 (some (b31 + 1)) none)) (evs_c (ev_v rfl) (evs_c (ev_op (d := eInt (b31 + 1)) (evs_c (ev_v rfl) (evs_c ev_cst evs_n)) rfl rfl) evs_n)) rfl lcut_ok) evs_n)) rfl (lcat_ok q_l32)) evs_n) rfl rfl) evs_n)) rfl (t_asked_rank_ok q_c33)) rfl rfl (fun _ => (ev_v rfl)) rfl (fun _ => rfl)) rfl rfl)) rfl rfl) k) ?_
                    cases h
                    exact fin_nx [0, 0, 0, 0, 0, 0, 2, 0, 0, 0, 0] nx_skip rfl rfl) q_c34)
end Mi.T
namespace Mi.T
open PySem PySem.Spec PyProof.Rows L2 GxR
abbrev Row := (List Int) × Int × Int × Int
def ROk (r : Row) : Prop := 0 ≤ r.2.1
def Mem (m : List Nat) : Prop := ∀ c ∈ m, c = 48 ∨ c = 49
def Inp (s : List Nat) : Prop := ∀ c ∈ s, c = 117 ∨ c = 100
theorem fmod_nn (a : Int) {m : Int} (h : 1 ≤ m) : 0 ≤ a.fmod m := by
  rw [Int.fmod_eq_emod_of_nonneg a (by omega)]
  exact Int.emod_nonneg a (by omega)
theorem fmod_lt (a : Int) {m : Int} (h : 1 ≤ m) : a.fmod m < m := Int.fmod_lt_of_pos a (by omega)
theorem bind_of {α β : Type} {t : Option α} {a : α} {k : α → Option β} (h : t = some a) : t.bind k = k a := by rw [h]; rfl
theorem ifmod_of (a : Int) {m : Int} (h : 1 ≤ m) : ifmod a m = some (a.fmod m) := if_pos (by omega)
theorem ifdiv_of (a : Int) {m : Int} (h : 1 ≤ m) (h2 : m < 1073741824) : ifdivZ a m = some (a.fdiv m) := if_pos ⟨by omega, Nat.lt_of_lt_of_le (m := 2 ^ 30) (by omega) (Nat.pow_le_pow_right (by omega) (by omega))⟩
theorem atI_of {α : Type} (l : List α) {i : Int} (h0 : 0 ≤ i) (h1 : i < l.length) : atI l i = some (l[i.toNat]'(by omega)) := atI_pos h0 h1
theorem taken_spec {r : Row} (h : ROk r) {m : Int} (hm : 1 ≤ m) (hm2 : m < 1073741824) : ∃ w, t__law_taken r m = some w ∧ 0 ≤ w.1 ∧ w.1 < m ∧ ROk w.2 := by
  obtain ⟨ns, p, s, q⟩ := r
  have h : 0 ≤ p := h
  unfold t__law_taken
  simp only [ifmod_of _ hm, ifdiv_of _ hm hm2, imulW_of (a := s) (b := 48271) (by omega), Option.bind_some]
  by_cases h1 : 0 < q
  · simp only [h1, decide_true, if_true]
    exact ⟨_, rfl, fmod_nn _ hm, fmod_lt _ hm, h⟩
  · simp only [h1, decide_false, Bool.false_eq_true, if_false]
    by_cases h2 : (ns.length : Int) < p + 1
    · simp only [h2, decide_true, if_true]
      exact ⟨_, rfl, fmod_nn _ hm, fmod_lt _ hm, by show 0 ≤ p + 1; omega⟩
    · simp only [h2, decide_false, Bool.false_eq_true, if_false]
      rw [show p + 1 - 1 = p by omega, atI_of ns h (by omega)]
      simp only [Option.bind_some]
      generalize ns[p.toNat]'(by omega) = c
      by_cases h3 : ((10 : Int) ^ (18 : Nat)) ≤ c
      · rw [if_pos (by simpa using h3)]
        exact ⟨_, rfl, fmod_nn _ hm, fmod_lt _ hm, by show 0 ≤ p + 1; omega⟩
      · rw [if_neg (by simpa using h3)]
        exact ⟨_, rfl, fmod_nn _ hm, fmod_lt _ hm, by show 0 ≤ p + 1; omega⟩
theorem row0 (ns : List Int) (s : Int) : ROk (ns, 0, s, 0) := Int.le_refl 0
theorem len_nil : ∀ {s : List Nat}, s.length ≤ 16000000 → slen s = some (s.length : Int) := fun h => if_pos h
theorem tcmpS_inv {β τ σ : Type} {t : β → σ → Option (List τ × σ)} (Inv : σ → Prop) (P : τ → Prop) (step : ∀ b s, Inv s → ∃ y s', t b s = some ([y], s') ∧ Inv s' ∧ P y) (l : List β) (s : σ) (h : Inv s) (hl : l.length ≤ 16000000) :
    ∃ ys s', tcmpS t l s = some (ys, s') ∧ Inv s' ∧ ys.length = l.length ∧ ∀ y ∈ ys, P y := by
  have key : ∀ (l : List β) (s : σ), Inv s → ∃ ys s', cmpL t l s = some (ys, s') ∧ Inv s' ∧ ys.length = l.length ∧ ∀ y ∈ ys, P y := by
    intro l
    induction l with
    | nil => exact fun s h => ⟨[], s, rfl, h, rfl, fun y hy => by cases hy⟩
    | cons b l ih =>
      intro s h
      obtain ⟨y, s1, h1, h2, h3⟩ := step b s h
      obtain ⟨ys, s2, k1, k2, k3, k4⟩ := ih s1 h2
      refine ⟨y :: ys, s2, ?_, k2, by rw [List.length_cons, List.length_cons, k3], fun z hz => ?_⟩
      · unfold cmpL
        rw [h1]
        show (cmpL t l s1).bind _ = _
        rw [k1]
        rfl
      · rcases List.mem_cons.mp hz with rfl | hz
        · exact h3
        · exact k4 z hz
  obtain ⟨ys, s', h1, h2, h3, h4⟩ := key l s h
  refine ⟨ys, s', ?_, h2, h3, h4⟩
  unfold tcmpS
  rw [h1]
  show (lenOk ys).bind _ = _
  unfold lenOk
  rw [if_pos (by omega)]
  rfl
theorem fld_inv {β σ : Type} {t : β → σ → Option σ} (Inv : List β → σ → Prop) (step : ∀ b l s, Inv (b :: l) s → ∃ s', t b s = some s' ∧ Inv l s') : ∀ (l : List β) (s : σ), Inv l s → ∃ s', fld t l s = some s' ∧ Inv [] s'
  | [], s, h => ⟨s, rfl, h⟩
  | b :: l, s, h => by
    obtain ⟨s1, h1, h2⟩ := step b l s h
    obtain ⟨s2, k1, k2⟩ := fld_inv Inv step l s1 h2
    exact ⟨s2, by unfold fld; rw [h1]; exact k1, k2⟩
theorem fld_inv' {β σ : Type} {t : β → σ → Option σ} {l : List β} {s : σ} {F : Option σ} (hF : fld t l s = F) (Inv : List β → σ → Prop) (h : Inv l s) (step : ∀ b l s, Inv (b :: l) s → ∃ s', t b s = some s' ∧ Inv l s') : ∃ s', F = some s' ∧ Inv [] s' := hF ▸ fld_inv Inv step l s h
theorem irange_len (a : Int) (n : Nat) : (irange a n).length = n := by
  unfold irange
  rw [List.length_map, List.length_range]
theorem range1_of {n : Int} (h : n < 1000000000) (h2 : -1000000000 ≤ n) : trange1 n = some (irange 0 n.toNat) := if_pos (by omega)
theorem rep1_of (c : Nat) {n : Int} (h0 : 0 ≤ n) (h1 : n ≤ 1000000) : rep [c] n = some (List.replicate n.toNat c) := by
  have e : ∀ k : Nat, (List.replicate k [c]).flatten = List.replicate k c := fun k => by
    induction k with
    | zero => rfl
    | succ k ih => rw [List.replicate_succ, List.flatten_cons, ih, List.replicate_succ]; rfl
  unfold rep
  rw [if_pos ⟨by omega, by omega, by simp; omega⟩, e]
theorem scat_of {a b : List Nat} (h : a.length + b.length ≤ 16000000) : scat a b = some (a ++ b) := if_pos h
theorem lcat_of {α : Type} {a b : List α} (h : a.length + b.length ≤ 16000000) : lcat a b = some (a ++ b) := if_pos h
theorem tapp_of {α : Type} {l : List α} {x : α} (h : l.length < 16000000) : tapp l x = some (l ++ [x]) := if_pos h
theorem lenOk_of {α : Type} {l : List α} (h : l.length ≤ 16000000) : lenOk l = some l := if_pos h
theorem tmap_of {β τ : Type} {f : β → τ} {l : List β} (h : l.length ≤ 16000000) : tmap f l = some (l.map f) := lenOk_of (by rw [List.length_map]; exact h)
theorem tfil_of {β τ : Type} {c : β → Bool} {f : β → τ} {l : List β} (h : l.length ≤ 16000000) : tfil c f l = some ((l.filter c).map f) := lenOk_of (by rw [List.length_map]; exact Nat.le_trans (List.length_filter_le ..) h)
theorem cmp_of {β τ : Type} {t : β → Option (List τ)} {g : β → List τ} : ∀ {l : List β}, (∀ b ∈ l, t b = some (g b)) → cmp t l = some (l.flatMap g)
  | [], _ => rfl
  | b :: l, h => by
    unfold cmp
    rw [h b List.mem_cons_self, cmp_of (l := l) fun c hc => h c (List.mem_cons_of_mem _ hc)]
    rfl
theorem tcmp_of {β τ : Type} {t : β → Option (List τ)} {g : β → List τ} {l : List β} (h : ∀ b ∈ l, t b = some (g b)) (hl : (l.flatMap g).length ≤ 16000000) : tcmp t l = some (l.flatMap g) := by
  unfold tcmp
  rw [cmp_of h]
  exact lenOk_of hl
theorem mem_replicate {n : Nat} {c : Nat} (h : c = 48 ∨ c = 49) : Mem (List.replicate n c) := fun d hd => by rw [(List.mem_replicate.mp hd).2]; exact h
theorem chars_len (s : List Nat) : (chars s).length = s.length := List.length_map ..
theorem pick_s {r : Row} (h : ROk r) {s : List Nat} (hs : 1 ≤ s.length) (hs2 : s.length < 16000000) : ∃ (c : Nat) (r' : Row), t__law_pick_s r s = some ([c], r') ∧ c ∈ s ∧ ROk r' := by
  obtain ⟨w, h1, h2, h3, h4⟩ := taken_spec h (m := s.length) (by omega) (by omega)
  unfold t__law_pick_s
  rw [len_nil (by omega)]
  simp only [Option.bind_some, h1]
  unfold sat
  rw [if_pos (by omega), atI_of s h2 h3]
  exact ⟨_, _, rfl, List.getElem_mem _, h4⟩
theorem pick_Li {r : Row} (h : ROk r) {s : List Int} (hs : 1 ≤ s.length) (hs2 : s.length < 16000000) : ∃ (c : Int) (r' : Row), t__law_pick_Li r s = some (c, r') ∧ c ∈ s ∧ ROk r' := by
  obtain ⟨w, h1, h2, h3, h4⟩ := taken_spec h (m := s.length) (by omega) (by omega)
  unfold t__law_pick_Li
  simp only [Option.bind_some, h1]
  rw [atI_of s h2 h3]
  exact ⟨_, _, rfl, List.getElem_mem _, h4⟩
theorem steps_spec {r : Row} (h : ROk r) : ∃ (s : List Nat) (r' : Row), t__law_steps r = some (s, r') ∧ s.length ≤ 72 ∧ Inp s ∧ ROk r' := by
  obtain ⟨c, r1, p1, p2, p3⟩ := pick_s h (s := [117, 100]) (by simp) (by simp)
  obtain ⟨w, h1, h2, h3, h4⟩ := taken_spec p3 (m := 9) (by omega) (by omega)
  unfold t__law_steps
  simp only [p1, h1, Option.bind_some]
  rw [range1_of (by omega) (by omega)]
  simp only [Option.bind_some]
  generalize hF : fld _ _ _ = F
  obtain ⟨s', rfl, l2⟩ := fld_inv' hF (fun l s => ROk s.1 ∧ (∃ c, s.2.1 = [c] ∧ (c = 117 ∨ c = 100)) ∧ s.2.2.length + 9 * l.length ≤ 72 ∧ Inp s.2.2) ⟨h4, ⟨c, rfl, by simpa using p2⟩, by simp only [irange_len, List.length_nil]; omega, fun d hd => by cases hd⟩
    (fun b l s ⟨i1, ⟨c, i2, i3⟩, i4, i5⟩ => by
      obtain ⟨r, ls, t⟩ := s
      simp only at i1 i2 i4 i5 ⊢
      subst i2
      obtain ⟨w, h1, h2, h3, h4⟩ := taken_spec i1 (m := 9) (by omega) (by omega)
      obtain ⟨y, r2, k1, k2, k3⟩ := pick_Li h4 (s := [0, 1, w.1]) (by simp) (by simp)
      have hy : 0 ≤ y ∧ y < 9 := by
        simp only [List.mem_cons, List.not_mem_nil, or_false] at k2
        omega
      rw [List.length_cons] at i4
      simp only [h1, k1, Option.bind_some]
      rw [rep1_of c (by omega) (by omega)]
      simp only [Option.bind_some]
      rw [scat_of (by rw [List.length_replicate]; omega)]
      simp only [Option.bind_some]
      refine ⟨_, rfl, k3, ?_, ?_, ?_⟩
      · by_cases z : c = 117
        · exact ⟨100, by simp [z], .inr rfl⟩
        · exact ⟨117, by simp [z], .inl rfl⟩
      · simp only [List.length_append, List.length_replicate]
        omega
      · intro d hd
        rcases List.mem_append.mp hd with hd | hd
        · exact i5 d hd
        · rw [(List.mem_replicate.mp hd).2]; exact i3)
  exact ⟨s'.2.2, s'.1, rfl, by simpa using l2.2.2.1, l2.2.2.2, l2.1⟩
theorem is_in_spec {i a b : Int} (h1 : a ≤ i) (h2 : i ≤ b) : t_is_in i a b = some true := by
  unfold t_is_in
  simp [h1, h2]
theorem need_span_spec {i : Int} (h1 : 1 ≤ i) (h2 : i ≤ 9) : t_need_span i = some () := by
  unfold t_need_span
  rw [is_in_spec h1 h2]
  rfl
theorem need_input_spec {s : List Nat} (hm : Inp s) (h2 : s.length ≤ 200) : t_need_input s = some () := by
  have e2 : (s.all fun c => decide (c ∈ ((⟨#[117, 100]⟩ : Str)).cps.toList)) = true := List.all_eq_true.mpr fun c hc => by
    rcases hm c hc with rfl | rfl <;> decide
  unfold t_need_input t_is_input
  rw [len_nil (by omega)]
  simp only [Option.bind_some, e2]
  simp [show ¬ (200 : Int) < s.length by omega, show ¬ 200 < s.length by omega]
def Mm (n : Nat) (m : List Nat) : Prop := Mem m ∧ m.length = n
theorem cut_to' {α : Type} (l : List α) (n : Nat) : cutL l none (some (n : Int)) = l.take n := by
  by_cases h : n ≤ l.length
  · exact cut_to l n h
  · unfold cutL
    have e1 : HT.sIx l.length 0 none = 0 := rfl
    have e2 : HT.sIx l.length l.length (some (n : Int)) = min n l.length := HT.sIx_nat _ _ _
    rw [e1, e2, List.drop_zero, Nat.sub_zero, Nat.min_eq_right (by omega), List.take_of_length_le (Nat.le_refl _), List.take_of_length_le (by omega)]
theorem scut_to (s : List Nat) (n : Nat) (h : s.length ≤ 1000000) : scut s none (some (n : Int)) = some (s.take n) := by
  unfold scut
  rw [if_pos (by omega), cut_to']
theorem scut_from (s : List Nat) (n : Nat) (h : s.length ≤ 1000000) : scut s (some (n : Int)) none = some (s.drop n) := by
  unfold scut
  rw [if_pos (by omega), cut_from]
theorem atI_get {α : Type} {l : List α} {k : Nat} {x : α} (hx : l[k]? = some x) : atI l (k : Int) = some x := by
  obtain ⟨h, e⟩ := List.getElem?_eq_some_iff.mp hx
  rw [atI_of _ (by omega) (by omega)]
  simp only [Int.toNat_natCast]
  rw [e]
def turnL (o n : Nat) : List Nat → Option (List Nat)
  | [] => none
  | a :: s => (match turnL o n s with
    | some s' => some (a :: s')
    | none => if a = o then some (n :: s) else none)
def stepL (m : List Nat) (c : Nat) : List Nat := if c = 117 then (turnL 48 49 m).getD m else (turnL 49 48 m).getD m
theorem turn_none {o n : Nat} : ∀ {s : List Nat}, (∀ j : Nat, s[j]? ≠ some o) → turnL o n s = none
  | [], _ => rfl
  | a :: s, h => by
    rw [turnL, turn_none fun j => by simpa using h (j + 1)]
    show (if a = o then some (n :: s) else none) = none
    rw [if_neg fun z => h 0 (by simp [z])]
theorem turn_at {o n : Nat} : ∀ {s : List Nat} {j : Nat}, s[j]? = some o → (∀ k, j < k → s[k]? ≠ some o) → turnL o n s = some (s.take j ++ n :: s.drop (j + 1))
  | [], j, h, _ => by simp at h
  | a :: s, 0, h, hk => by
    rw [turnL, turn_none fun j => by simpa using hk (j + 1) (by omega)]
    show (if a = o then some (n :: s) else none) = _
    rw [if_pos (by simpa using h)]
    rfl
  | a :: s, j + 1, h, hk => by
    rw [turnL, turn_at (s := s) (j := j) (by simpa using h) fun k hjk => by simpa using hk (k + 1) (by omega)]
    rfl
theorem turn_cases (o n : Nat) (s : List Nat) : (rfindL s o = -1 ∧ turnL o n s = none ∧ ∀ j : Nat, s[j]? ≠ some o) ∨ ∃ j : Nat, rfindL s o = (j : Int) ∧ j < s.length ∧ turnL o n s = some (s.take j ++ n :: s.drop (j + 1)) ∧ s[j]? = some o ∧ ∀ k, j < k → s[k]? ≠ some o := by
  unfold rfindL
  rcases rfindA_spec o s 0 (-1) with ⟨h1, h2⟩ | ⟨j, h1, h2, h3⟩
  · exact .inl ⟨h2, turn_none h1, h1⟩
  · exact .inr ⟨j, by rw [h3, Nat.zero_add], (List.getElem?_eq_some_iff.mp h1).1, turn_at h1 h2, h1, h2⟩
theorem turn_len {o n : Nat} : ∀ {s t : List Nat}, turnL o n s = some t → t.length = s.length
  | [], t, h => by cases h
  | a :: s, t, h => by
    rw [turnL] at h
    split at h
    · rename_i s' hs
      cases h
      rw [List.length_cons, List.length_cons, turn_len hs]
    · split at h
      · cases h; rfl
      · cases h
theorem turn_mem {o n : Nat} {P : Nat → Prop} (hn : P n) : ∀ {s t : List Nat}, turnL o n s = some t → (∀ c ∈ s, P c) → ∀ c ∈ t, P c
  | [], t, h, _ => by cases h
  | a :: s, t, h, hs => by
    rw [turnL] at h
    split at h
    · rename_i s' q
      cases h
      intro c hc
      rcases List.mem_cons.mp hc with rfl | hc
      · exact hs _ List.mem_cons_self
      · exact turn_mem hn q (fun d hd => hs d (List.mem_cons_of_mem _ hd)) c hc
    · split at h
      · cases h
        intro c hc
        rcases List.mem_cons.mp hc with rfl | hc
        · exact hn
        · exact hs c (List.mem_cons_of_mem _ hc)
      · cases h
theorem step_len (m : List Nat) (c : Nat) : (stepL m c).length = m.length := by
  unfold stepL
  split
  · cases h : turnL 48 49 m with
    | none => rfl
    | some t => exact turn_len h
  · cases h : turnL 49 48 m with
    | none => rfl
    | some t => exact turn_len h
theorem step_mem {m : List Nat} (hm : Mem m) (c : Nat) : Mem (stepL m c) := by
  unfold stepL
  split
  · cases h : turnL 48 49 m with
    | none => exact hm
    | some t => exact turn_mem (P := fun c => c = 48 ∨ c = 49) (.inr rfl) h hm
  · cases h : turnL 49 48 m with
    | none => exact hm
    | some t => exact turn_mem (P := fun c => c = 48 ∨ c = 49) (.inl rfl) h hm
theorem step_spec {m : List Nat} (hz : m.length ≤ 1000000) (c : Nat) : t_step m [c] = some (stepL m c) := by
  have fin : ∀ o n : Nat, (if ([c] == [117]) = true then (([48] : List Nat), ([49] : List Nat)) else ([49], [48])) = ([o], [n]) → t_step m [c] = some ((turnL o n m).getD m) := fun o n h => by
    unfold t_step
    simp only [Option.bind_some, h]
    show (some (rfindL m o)).bind _ = _
    simp only [Option.bind_some]
    rcases turn_cases o n m with ⟨k1, k2, _⟩ | ⟨j, k1, k2, k3, _⟩
    · rw [k1, k2]
      rfl
    · rw [k1, k3]
      rw [if_neg (by simp), scut_to m j hz]
      simp only [Option.bind_some]
      rw [scat_of (by simp; omega)]
      simp only [Option.bind_some]
      rw [show (j : Int) + 1 = ((j + 1 : Nat) : Int) from rfl, scut_from m (j + 1) hz]
      simp only [Option.bind_some]
      rw [scat_of (by simp; omega)]
      simp
  unfold stepL
  by_cases hc : c = 117
  · rw [if_pos hc]; exact fin 48 49 (by simp [hc])
  · rw [if_neg hc]; exact fin 49 48 (by simp [hc])
def behL (m s : List Nat) : List Nat := s.foldl stepL m
theorem beh_len : ∀ (s m : List Nat), (behL m s).length = m.length
  | [], m => rfl
  | c :: s, m => (beh_len s (stepL m c)).trans (step_len m c)
theorem beh_mem : ∀ (s : List Nat) {m : List Nat}, Mem m → Mem (behL m s)
  | [], _, h => h
  | c :: s, m, h => beh_mem s (step_mem h c)
theorem beh_append (m a b : List Nat) : behL (behL m a) b = behL m (a ++ b) := (List.foldl_append ..).symm
theorem fld_chars {σ : Type} {t : List Nat → σ → Option σ} {F : Option σ} {s : List Nat} {a : σ} (hF : fld t (chars s) a = F) (g : σ → Nat → σ) (P : List Nat → σ → Prop) (h : P s a) (step : ∀ c l s, P (c :: l) s → t [c] s = some (g s c) ∧ P l (g s c)) : F = some (s.foldl g a) := by
  subst hF
  induction s generalizing a with
  | nil => rfl
  | cons c s ih =>
    obtain ⟨h1, h2⟩ := step c s a h
    show (t [c] a).bind _ = _
    rw [h1]
    exact ih h2
theorem behind_spec {m s : List Nat} (hz : m.length ≤ 1000000) : t_behind m s = some (behL m s) := by
  unfold t_behind
  generalize hF : fld _ _ _ = F
  rw [fld_chars hF stepL (fun _ m => m.length ≤ 1000000) hz fun c l m h => ⟨by rw [step_spec h]; rfl, by rw [step_len]; exact h⟩]
  rfl
def memsN : Nat → List (List Nat)
  | 0 => [[]]
  | n + 1 => (memsN n).flatMap fun m => [48 :: m, 49 :: m]
theorem mems_all : ∀ {n : Nat} {m : List Nat}, Mem m → m.length = n → m ∈ memsN n
  | 0, [], _, _ => List.mem_singleton.mpr rfl
  | 0, _ :: _, _, h => by cases h
  | n + 1, [], _, h => by cases h
  | n + 1, a :: m, hm, h => by
    have ih := mems_all (n := n) (m := m) (fun c hc => hm c (List.mem_cons_of_mem _ hc)) (Nat.succ.inj h)
    refine List.mem_flatMap.mpr ⟨m, ih, ?_⟩
    rcases hm a List.mem_cons_self with rfl | rfl
    · exact List.mem_cons_self
    · exact List.mem_cons_of_mem _ List.mem_cons_self
theorem fldR_pass {β ρ : Type} {t : β → Unit → Option (Ctl ρ Unit)} : ∀ {l : List β}, (∀ b ∈ l, t b () = some (.nxt ())) → fldR t l () = some (.nxt ())
  | [], _ => rfl
  | b :: l, h => by
    unfold fldR
    rw [h b List.mem_cons_self, Option.bind_some]
    exact fldR_pass fun c hc => h c (List.mem_cons_of_mem _ hc)
theorem mem_irange0 {n : Nat} {b : Int} (h : b ∈ irange 0 n) : ∃ j : Nat, b = (j : Int) ∧ j < n := by
  unfold irange at h
  obtain ⟨j, h1, h2⟩ := List.mem_map.mp h
  exact ⟨j, by omega, List.mem_range.mp h1⟩
theorem irange0_succ (n : Nat) : irange 0 (n + 1) = irange 0 n ++ [(n : Int)] := by
  unfold irange
  rw [List.range_succ, List.map_append]
  simp
theorem fld_append {β σ : Type} {t : β → σ → Option σ} : ∀ (a b : List β) (s : σ), fld t (a ++ b) s = (fld t a s).bind (fld t b)
  | [], b, s => rfl
  | x :: a, b, s => by
    rw [List.cons_append]
    unfold fld
    cases t x s with
    | none => rfl
    | some s1 => exact fld_append a b s1
theorem fld_range {σ : Type} {t : Int → σ → Option σ} (Inv : Nat → σ → Prop) : ∀ (n : Nat) {s : σ}, Inv 0 s → (∀ k, k < n → ∀ s, Inv k s → ∃ s', t (k : Int) s = some s' ∧ Inv (k + 1) s') → ∃ s', fld t (irange 0 n) s = some s' ∧ Inv n s'
  | 0, s, h, _ => ⟨s, rfl, h⟩
  | n + 1, s, h, step => by
    obtain ⟨s1, h1, h2⟩ := fld_range Inv n h fun k hk => step k (by omega)
    obtain ⟨s2, h3, h4⟩ := step n (by omega) s1 h2
    refine ⟨s2, ?_, h4⟩
    rw [irange0_succ, fld_append, h1, Option.bind_some]
    show (t _ s1).bind _ = _
    rw [h3]
    rfl
theorem fldR_append {β ρ σ : Type} {t : β → σ → Option (Ctl ρ σ)} : ∀ (a b : List β) {s s1 : σ}, fld (fun x s => (t x s).bind fun c => match c with | .nxt s1 => some s1 | _ => none) a s = some s1 → fldR t (a ++ b) s = fldR t b s1
  | [], b, s, s1, h => by cases h; rfl
  | x :: a, b, s, s1, h => by
    rw [List.cons_append]
    unfold fld at h
    show ((t x s).bind fun c => match c with
      | .nxt s1 => fldR t (a ++ b) s1
      | .brk s1 => some (.nxt s1)
      | .ret r => some (.ret r)) = fldR t b s1
    cases q : t x s with
    | none => rw [q] at h; cases h
    | some c =>
      rw [q] at h
      cases c with
      | nxt s2 => exact fldR_append a b h
      | brk s2 => cases h
      | ret r => cases h
theorem fldR_range {ρ σ : Type} {t : Int → σ → Option (Ctl ρ σ)} (Inv : Nat → σ → Prop) (n : Nat) {s : σ} (h : Inv 0 s) (step : ∀ k, k < n → ∀ s, Inv k s → ∃ s', t (k : Int) s = some (.nxt s') ∧ Inv (k + 1) s') : ∃ s', fldR t (irange 0 n) s = some (.nxt s') ∧ Inv n s' := by
  obtain ⟨s1, h1, h2⟩ := fld_range (t := fun x s => (t x s).bind fun c => match c with | .nxt s1 => some s1 | _ => none) Inv n h fun k hk s hs => by
    obtain ⟨s', k1, k2⟩ := step k hk s hs
    exact ⟨s', by rw [k1]; rfl, k2⟩
  refine ⟨s1, ?_, h2⟩
  have := fldR_append (t := t) (irange 0 n) [] h1
  rw [List.append_nil] at this
  rw [this]
  rfl
theorem atN {α : Type} {l : List α} {j : Nat} {x : α} (h : l[j]? = some x) : atI l (j : Int) = some x := atI_get h
theorem shp_prs : ∀ {k : Nat} (l : List (Int × Int)), D.shpL (k + 1) (l.map (e2 eInt eInt)) = true
  | k, [] => by simp [D.shpL]
  | k, p :: l => by
    rw [List.map_cons]
    simp only [D.shpL, Bool.and_eq_true]
    exact ⟨by simp [D.shp, D.shpL], shp_prs l⟩
theorem cmp_mp {α β τ : Type} (f : α → β) (t : β → Option (List τ)) : ∀ l : List α, cmp t (l.map f) = cmp (fun x => t (f x)) l
  | [] => rfl
  | x :: l => by
    rw [List.map_cons]
    unfold cmp
    rw [cmp_mp f t l]
theorem tcmp_mp {α β τ : Type} (f : α → β) (t : β → Option (List τ)) (l : List α) : tcmp t (l.map f) = tcmp (fun x => t (f x)) l := by
  unfold tcmp
  rw [cmp_mp]
def en (q : Rat) : Int × Int := (q.num, (q.den : Int))
theorem den_pos' (q : Rat) : 0 < (q.den : Int) := by have := q.den_pos; omega
abbrev Rl := Int × Int
def relL (n : Nat) : List Rl := (List.range n).flatMap fun h => (List.range (h + 1)).map fun (l : Nat) => (((h + 1 : Nat) : Int), ((l : Nat) : Int))
theorem rel_mem {n : Nat} {r : Rl} : r ∈ relL n ↔ 1 ≤ r.1 ∧ r.1 ≤ n ∧ 0 ≤ r.2 ∧ r.2 < r.1 := by
  unfold relL
  rw [List.mem_flatMap]
  constructor
  · rintro ⟨h, hh, hr⟩
    obtain ⟨l, hl, rfl⟩ := List.mem_map.mp hr
    rw [List.mem_range] at hh hl
    dsimp only
    omega
  · rintro ⟨h1, h2, h3, h4⟩
    obtain ⟨a, b⟩ := r
    dsimp only at h1 h2 h3 h4
    refine ⟨(a - 1).toNat, List.mem_range.mpr (by omega), List.mem_map.mpr ⟨b.toNat, List.mem_range.mpr (by omega), ?_⟩⟩
    refine Prod.ext ?_ ?_
    · show (((a - 1).toNat + 1 : Nat) : Int) = a
      omega
    · show ((b.toNat : Nat) : Int) = b
      omega
def rlt (a b : Rl) : Bool := dlt (e2 eInt eInt a) (e2 eInt eInt b) && (dle (e2 eInt eInt a) (e2 eInt eInt b) && !dle (e2 eInt eInt b) (e2 eInt eInt a))
structure RelOk (n : Nat) : Prop where
  pw : (relL n).Pairwise fun a b => rlt a b = true
  n1 : 1 ≤ n
  n9 : n ≤ 9
theorem rlt_irr (a : Rl) : ¬ rlt a a = true := fun h => by
  unfold rlt at h
  rw [Bool.and_eq_true, Bool.and_eq_true] at h
  have h1 := h.2.1
  have h2 := h.2.2
  rw [h1] at h2
  cases h2
theorem RelOk.nd {n : Nat} (R : RelOk n) : (relL n).Nodup := by
  unfold List.Nodup
  refine R.pw.imp fun {a b} h => fun e => ?_
  subst e
  exact rlt_irr _ h
theorem rel_len {n : Nat} (h : n ≤ 9) : (relL n).length ≤ 45 := by
  have : ((List.range 10).all fun k => decide ((relL k).length ≤ 45)) = true := by decide +kernel
  exact of_decide_eq_true (List.all_eq_true.mp this n (List.mem_range.mpr (by omega)))
theorem place_def {m : List Nat} (hm : m.length ≤ 1000) (s : List Nat) {k : Int} (hk : 1 ≤ k) : ∃ z, t_place m s k = some z := by
  have en_len : ∀ (l : List (List Nat)) (i : Int), (enumI i l).length = l.length := by
    intro l
    induction l with
    | nil => intro i; rfl
    | cons x l ih => intro i; unfold enumI; rw [List.length_cons, ih, List.length_cons]
  unfold t_place
  rw [tfil_of (by rw [en_len, chars_len]; omega), Option.bind_some]
  generalize ((enumI 0 (chars m)).filter fun (b1 : Int × List Nat) => b1.2 == s).map (fun (b1 : Int × List Nat) => b1.1) = L
  by_cases c : decide (k ≤ (L.length : Int)) = true
  · rw [if_pos c]
    have := of_decide_eq_true c
    rw [atI_of L (by omega) (by omega)]
    exact ⟨_, rfl⟩
  · rw [if_neg c, len_nil (by omega)]
    exact ⟨_, rfl⟩
def hold (m : List Nat) (r : Rl) : Bool := t_holds m r == some true
theorem holds_spec {n : Nat} {m : List Nat} (hm : Mm n m) (n9 : n ≤ 9) {r : Rl} (hr : r ∈ relL n) : t_holds m r = some (hold m r) := by
  obtain ⟨h1, h2, h3, h4⟩ := rel_mem.mp hr
  have hl := hm.2
  have : ∃ b, t_holds m r = some b := by
    unfold t_holds
    obtain ⟨a, ha⟩ := place_def (m := m) (by omega) [49] (k := r.2 + 1) (by omega)
    obtain ⟨b, hb⟩ := place_def (m := m) (by omega) [48] (k := ((m.length : Int) - r.1) + 1) (by omega)
    rw [ha, Option.bind_some, len_nil (by omega), Option.bind_some, hb]
    exact ⟨_, rfl⟩
  obtain ⟨b, hb⟩ := this
  unfold hold
  rw [hb]
  cases b <;> rfl
theorem tcmp_mapL {β τ : Type} {t : β → Option (List τ)} {f : β → τ} {l : List β} (h : ∀ b ∈ l, t b = some [f b]) (hl : l.length ≤ 16000000) : tcmp t l = some (l.map f) := by
  have e : l.flatMap (fun b => [f b]) = l.map f := by
    induction l with
    | nil => rfl
    | cons x l ih => rw [List.flatMap_cons, ih (fun b hb => h b (List.mem_cons_of_mem _ hb)) (by rw [List.length_cons] at hl; omega)]; rfl
  have := tcmp_of (g := fun b => [f b]) h (by rw [e, List.length_map]; exact hl)
  rwa [e] at this
theorem tcmp_filL {β : Type} {t : β → Option (List β)} {p : β → Bool} {l : List β} (h : ∀ b ∈ l, t b = some (if p b = true then [b] else [])) (hl : l.length ≤ 16000000) : tcmp t l = some (l.filter p) := by
  have e : ∀ l : List β, l.flatMap (fun b => if p b = true then [b] else []) = l.filter p := by
    intro l
    induction l with
    | nil => rfl
    | cons x l ih =>
      rw [List.flatMap_cons, ih]
      by_cases c : p x = true
      · rw [if_pos c, List.filter_cons_of_pos c]; rfl
      · rw [if_neg c, List.filter_cons_of_neg c]; rfl
  have := tcmp_of (g := fun b => if p b = true then [b] else []) h (by rw [e]; exact Nat.le_trans (List.length_filter_le ..) hl)
  rwa [e] at this
theorem mems_mem : ∀ {n : Nat} {m : List Nat}, m ∈ memsN n → Mem m ∧ m.length = n
  | 0, m, h => by
    cases List.mem_singleton.mp h
    exact ⟨fun c hc => (by cases hc), rfl⟩
  | n + 1, m, h => by
    obtain ⟨s, h1, h2⟩ := List.mem_flatMap.mp h
    obtain ⟨k1, k2⟩ := mems_mem h1
    rcases List.mem_cons.mp h2 with rfl | h2
    · refine ⟨fun c hc => ?_, by rw [List.length_cons, k2]⟩
      rcases List.mem_cons.mp hc with rfl | hc
      · exact .inl rfl
      · exact k1 c hc
    · cases List.mem_singleton.mp h2
      refine ⟨fun c hc => ?_, by rw [List.length_cons, k2]⟩
      rcases List.mem_cons.mp hc with rfl | hc
      · exact .inr rfl
      · exact k1 c hc
theorem ar_1 : t_all_relays 1 = some (relL 1) := by decide +kernel
theorem ar_2 : t_all_relays 2 = some (relL 2) := by decide +kernel
theorem ar_3 : t_all_relays 3 = some (relL 3) := by decide +kernel
theorem ar_4 : t_all_relays 4 = some (relL 4) := by decide +kernel
theorem ar_5 : t_all_relays 5 = some (relL 5) := by decide +kernel
theorem ar_6 : t_all_relays 6 = some (relL 6) := by decide +kernel
theorem arn (n : Nat) (h1 : 1 ≤ n) (h6 : n ≤ 6) : t_all_relays (n : Int) = some (relL n) := by
  match n, h1, h6 with
  | 1, _, _ => exact ar_1
  | 2, _, _ => exact ar_2
  | 3, _, _ => exact ar_3
  | 4, _, _ => exact ar_4
  | 5, _, _ => exact ar_5
  | 6, _, _ => exact ar_6
theorem is_input_spec {s : List Nat} (hm : Inp s) (h2 : s.length ≤ 200) : t_is_input s = some true := by
  have e2 : (s.all fun c => decide (c ∈ ((⟨#[117, 100]⟩ : Str)).cps.toList)) = true := List.all_eq_true.mpr fun c hc => by
    rcases hm c hc with rfl | rfl <;> decide
  unfold t_is_input
  rw [len_nil (by omega)]
  simp only [Option.bind_some, e2]
  simp [show ¬ (200 : Int) < s.length by omega, show ¬ 200 < s.length by omega]
theorem tmem_prs (x : Rl) (l : List Rl) : tmem (e2 eInt eInt) x l = some (decide (x ∈ l)) := by
  unfold tmem
  rw [if_pos (by rw [shp_prs (k := 14)]; simp [D.shp, D.shpL])]
  congr 1
  rw [Bool.eq_iff_iff, decide_eq_true_eq, List.any_eq_true]
  exact ⟨fun ⟨y, hy, e⟩ => by rw [← eq_of_beq e]; exact hy, fun h => ⟨x, h, beq_self_eq_true _⟩⟩
abbrev Rw := List ((List Nat) × Int)
def stR (span_ : Int) (b3 : List Nat) (s2 : Rw) : Option Rw :=
      (if (!s2.isEmpty) = true then ((atI s2 (-1)).bind fun x4 => some (x4.1 == b3)) else some false).bind fun b5 =>
      (if b5 = true then (
        (atI s2 (-1)).bind fun x7 =>
        (tset s2 (-1) (b3, x7.2 + 1)).bind fun rows8 =>
        some rows8)
      else (
        (tapp s2 (b3, 1)).bind fun rows9 =>
        some rows9)).bind fun s6 =>
      (t_settled span_ s6).bind fun rows10 =>
      some rows10
def outW (s11 : Rw) : Option (List Nat) :=
  (tcmp (fun (b12 : (List Nat) × Int) => (rep b12.1 b12.2).bind fun s13 => some [s13]) s11).bind fun l14 =>
  (sjoin [] l14).bind fun s15 =>
  some s15
theorem t_reduce_eq (n : Int) (w : List Nat) : t_reduce n w = (fld (stR n) (chars w) []).bind outW := rfl
def wordR (r : Rw) : List Nat := r.flatMap fun x => (List.replicate x.2.toNat x.1).flatten
def desc : Nat → List (List Nat)
  | 0 => [[]]
  | 1 => [[]]
  | b + 2 => desc (b + 1) ++ (desc (b + 1)).map fun l => (b + 1) :: l
def rowsL : Nat → List Nat → Rw
  | _, [] => []
  | c, k :: l => ([c], (k : Int)) :: rowsL (217 - c) l
def SS (n : Nat) : List Rw := [] :: [117, 100].flatMap fun c => (List.range n).flatMap fun f => (desc n).map fun l => rowsL c ((f + 1) :: l)
def okR (n : Nat) (r : Rw) : Bool := outW r == some (wordR r) && fld (stR n) (chars (wordR r)) [] == some r && [117, 100].all fun l => match stR n [l] r with
  | some r' => (SS n).contains r' && decide ((wordR r').length ≤ (wordR r).length + 1) && (memsN n).all fun m => behL m (wordR r') == stepL (behL m (wordR r)) l
  | none => false
theorem all_cut {α : Type} {f : α → Bool} (k : Nat) {l : List α} (h1 : (l.take k).all f = true) (h2 : (l.drop k).all f = true) : l.all f = true := by
  rw [← List.take_append_drop k l, List.all_append, h1, h2]; rfl
theorem red_state {n : Nat} (ok : (SS n).all (okR n) = true) : ∀ {w : List Nat} (r : Rw), r ∈ SS n → Inp w → ∃ r' ∈ SS n, fld (stR n) (chars w) r = some r' ∧ (wordR r').length ≤ (wordR r).length + w.length ∧ ∀ m ∈ memsN n, behL m (wordR r') = behL (behL m (wordR r)) w
  | [], r, hr, _ => ⟨r, hr, rfl, by simp, fun _ _ => rfl⟩
  | c :: w, r, hr, hw => by
    have h := List.all_eq_true.mp ok r hr
    unfold okR at h
    simp only [Bool.and_eq_true] at h
    have hc : c ∈ [117, 100] := by
      rcases hw c List.mem_cons_self with rfl | rfl
      · exact List.mem_cons_self
      · exact List.mem_cons_of_mem _ List.mem_cons_self
    have h2 := List.all_eq_true.mp h.2 c hc
    cases hs : stR n [c] r with
    | none => rw [hs] at h2; cases h2
    | some r1 =>
      rw [hs] at h2
      simp only [Bool.and_eq_true, decide_eq_true_eq] at h2
      obtain ⟨⟨g1, g2⟩, g3⟩ := h2
      obtain ⟨r2, k1, k2, k3, k4⟩ := red_state ok (w := w) r1 (List.contains_iff_mem.mp g1) (fun x hx => hw x (List.mem_cons_of_mem _ hx))
      refine ⟨r2, k1, ?_, by simp only [List.length_cons]; omega, fun m hm => ?_⟩
      · show (stR n [c] r).bind _ = _
        rw [hs]
        exact k2
      · rw [k4 m hm, eq_of_beq (List.all_eq_true.mp g3 m hm)]
        rfl
theorem SS_nil {n : Nat} : [] ∈ SS n := List.mem_cons_self
theorem reduce_state {n : Nat} (ok : (SS n).all (okR n) = true) {w : List Nat} (hw : Inp w) : ∃ r ∈ SS n, t_reduce n w = some (wordR r) ∧ t_reduce n (wordR r) = some (wordR r) ∧ (wordR r).length ≤ w.length ∧ ∀ m ∈ memsN n, behL m (wordR r) = behL m w := by
  obtain ⟨r, h1, h2, h3, h4⟩ := red_state ok (w := w) [] SS_nil hw
  have h := List.all_eq_true.mp ok r h1
  unfold okR at h
  simp only [Bool.and_eq_true] at h
  have e1 := eq_of_beq h.1.1
  have e2 := eq_of_beq h.1.2
  refine ⟨r, h1, ?_, ?_, by simpa [wordR] using h3, fun m hm => h4 m hm⟩
  · rw [t_reduce_eq, h2]; exact e1
  · rw [t_reduce_eq, e2]; exact e1
theorem ok_1 : (SS 1).all (okR 1) = true := by decide +kernel
theorem ok_2 : (SS 2).all (okR 2) = true := by decide +kernel
theorem ok_3 : (SS 3).all (okR 3) = true := by decide +kernel
theorem ok_4 : (SS 4).all (okR 4) = true := by decide +kernel
theorem ok_5_0 : (((SS 5).drop 0).take 27).all (okR 5) = true := by decide +kernel
theorem ok_5_1 : (((SS 5).drop 27).take 27).all (okR 5) = true := by decide +kernel
theorem ok_5_2 : (((SS 5).drop 54).take 27).all (okR 5) = true := by decide +kernel
theorem ok_5_3 : (((SS 5).drop 81).take 27).all (okR 5) = true := by decide +kernel
theorem ok_5_4 : (((SS 5).drop 108).take 27).all (okR 5) = true := by decide +kernel
theorem ok_5_5 : (((SS 5).drop 135).take 27).all (okR 5) = true := by decide +kernel
theorem ok_5 : (SS 5).all (okR 5) = true := by
  have d : ∀ k, ((SS 5).drop k).drop 27 = (SS 5).drop (k + 27) := fun k => by rw [List.drop_drop]
  have e : ((SS 5).drop 162).all (okR 5) = true := by
    rw [show (SS 5).drop 162 = [] from by decide +kernel]
    rfl
  have e : ((SS 5).drop 135).all (okR 5) = true := all_cut 27 ok_5_5 (by rw [d]; exact e)
  have e : ((SS 5).drop 108).all (okR 5) = true := all_cut 27 ok_5_4 (by rw [d]; exact e)
  have e : ((SS 5).drop 81).all (okR 5) = true := all_cut 27 ok_5_3 (by rw [d]; exact e)
  have e : ((SS 5).drop 54).all (okR 5) = true := all_cut 27 ok_5_2 (by rw [d]; exact e)
  have e : ((SS 5).drop 27).all (okR 5) = true := all_cut 27 ok_5_1 (by rw [d]; exact e)
  have e : ((SS 5).drop 0).all (okR 5) = true := all_cut 27 ok_5_0 (by rw [d]; exact e)
  exact e
theorem length_flat1 {α β : Type} {g : α → List β} (h : ∀ a, (g a).length ≤ 1) : ∀ {l : List α}, (l.flatMap g).length ≤ l.length
  | [] => Nat.le_refl _
  | a :: l => by
    rw [List.flatMap_cons, List.length_append, List.length_cons]
    have := h a
    have := length_flat1 h (l := l)
    omega
def wfa : Nat → List Nat → List Nat
  | _, [] => []
  | g, c :: m => if c = g then wfa g m else List.replicate (m.length + 1) (if g = 49 then 100 else 117) ++ wfa c m
def wayL : List Nat → List Nat → List Nat
  | x :: a, y :: b => if x = y then wayL a b else List.replicate ((x :: a).count (if y = 49 then 48 else 49)) (if y = 49 then 117 else 100) ++ wfa y b
  | _, _ => []
theorem findA_cases (o : Nat) : ∀ (m : List Nat) (i : Nat), (findA o m i = -1 ∧ ∀ x ∈ m, x ≠ o) ∨ ∃ pre rest, m = pre ++ o :: rest ∧ (∀ x ∈ pre, x ≠ o) ∧ findA o m i = ((i + pre.length : Nat) : Int)
  | [], i => .inl ⟨rfl, fun x hx => by cases hx⟩
  | a :: m, i => by
    by_cases h : a = o
    · refine .inr ⟨[], m, by rw [h]; rfl, (fun x hx => by cases hx), ?_⟩
      unfold findA
      rw [if_pos h]
      simp
    · unfold findA
      rw [if_neg h]
      rcases findA_cases o m (i + 1) with ⟨h1, h2⟩ | ⟨pre, rest, h1, h2, h3⟩
      · exact .inl ⟨h1, fun x hx => by rcases List.mem_cons.mp hx with rfl | hx; exact h; exact h2 x hx⟩
      · refine .inr ⟨a :: pre, rest, by rw [h1]; rfl, (fun x hx => by rcases List.mem_cons.mp hx with rfl | hx; exact h; exact h2 x hx), ?_⟩
        rw [h3, List.length_cons]
        omega
theorem wfa_pre (g : Nat) : ∀ (pre r : List Nat), (∀ x ∈ pre, x = g) → wfa g (pre ++ r) = wfa g r
  | [], _, _ => rfl
  | a :: pre, r, h => by
    show (if a = g then wfa g (pre ++ r) else _) = _
    rw [if_pos (h a List.mem_cons_self), wfa_pre g pre r fun x hx => h x (List.mem_cons_of_mem _ hx)]
theorem wfa_nil (g : Nat) (m : List Nat) (h : ∀ x ∈ m, x = g) : wfa g m = [] := by
  have := wfa_pre g m [] h
  rw [List.append_nil] at this
  rw [this]
  rfl
theorem wfa_len : ∀ (m : List Nat) (g : Nat), (wfa g m).length ≤ m.length * m.length
  | [], _ => by simp [wfa]
  | c :: m, g => by
    have e : (c :: m).length * (c :: m).length = m.length * m.length + 2 * m.length + 1 := by
      rw [List.length_cons, Nat.mul_succ, Nat.succ_mul]; omega
    show (if c = g then wfa g m else _).length ≤ _
    split
    · have := wfa_len m g; omega
    · have := wfa_len m c
      rw [List.length_append, List.length_replicate]
      omega
theorem way_from_all_spec : ∀ (k : Nat) (m : List Nat) (g : Nat), Mem m → (g = 48 ∨ g = 49) → m.length < k → m.length ≤ 1000 → t_way_from_all k [g] m = some (wfa g m)
  | 0, m, g, _, _, h, _ => by omega
  | k + 1, m, g, hm, hg, hk, hz => by
    obtain ⟨o, ho⟩ : ∃ o, o = if g = 49 then 48 else 49 := ⟨_, rfl⟩
    have hgo : ∀ x ∈ m, x ≠ o → x = g := fun x hx hne => by
      rcases hm x hx with rfl | rfl <;> rcases hg with rfl | rfl <;> simp at ho <;> first | rfl | exact absurd ho.symm hne
    have oo : o = 48 ∨ o = 49 := by
      rcases hg with rfl | rfl <;> simp at ho <;> omega
    have e1 : (if ([g] == [49]) = true then ([100] : List Nat) else [117]) = [if g = 49 then 100 else 117] := by
      rcases hg with rfl | rfl <;> rfl
    have e2 : (if ([g] == [49]) = true then ([48] : List Nat) else [49]) = [o] := by
      rw [ho]
      rcases hg with rfl | rfl <;> rfl
    unfold t_way_from_all
    rw [e1, e2, Option.bind_some, Option.bind_some]
    show ((some (findL m o)).bind _) = _
    rw [Option.bind_some]
    unfold findL
    rcases findA_cases o m 0 with ⟨h1, h2⟩ | ⟨pre, rest, h1, h2, h3⟩
    · rw [h1, if_pos (by simp), wfa_nil g m fun x hx => hgo x hx (h2 x hx)]
    · have hl : m.length = pre.length + 1 + rest.length := by rw [h1]; simp; omega
      have hr : Mem rest := fun x hx => hm x (by rw [h1]; simp [hx])
      have hd : m.drop (pre.length + 1) = rest := by rw [h1]; simp
      have ne : o ≠ g := by
        intro e
        rw [e] at ho
        rcases hg with rfl | rfl <;> simp at ho
      have w := wfa_len rest o
      have hrr : rest.length * rest.length ≤ 1000 * 1000 := Nat.mul_le_mul (by omega) (by omega)
      rw [h3, Nat.zero_add, if_neg (by simp), bind_of (len_nil (by omega)), bind_of (rep1_of _ (by omega) (by omega)), show (pre.length : Int) + 1 = ((pre.length + 1 : Nat) : Int) from rfl, bind_of (scut_from m _ (by omega)), hd, bind_of (way_from_all_spec k rest o hr oo (by omega) (by omega)), bind_of (scat_of (by rw [List.length_replicate]; omega))]
      conv => rhs; rw [h1, wfa_pre g pre _ fun x hx => hgo x (by rw [h1]; simp [hx]) (h2 x hx)]
      show some _ = some (if o = g then wfa g rest else List.replicate (rest.length + 1) (if g = 49 then 100 else 117) ++ wfa o rest)
      rw [if_neg ne, show (((m.length : Int) - (pre.length : Int)).toNat) = rest.length + 1 by omega]
theorem wayL_pre : ∀ (p a b : List Nat), wayL (p ++ a) (p ++ b) = wayL a b
  | [], _, _ => rfl
  | x :: p, a, b => by
    show (if x = x then wayL (p ++ a) (p ++ b) else _) = _
    rw [if_pos rfl, wayL_pre p a b]
theorem wayL_self (a : List Nat) : wayL a a = [] := by
  have := wayL_pre a [] []
  rw [List.append_nil] at this
  rw [this]
  rfl
theorem split_first : ∀ {a b : List Nat}, a.length = b.length → a ≠ b → ∃ p x y a' b', a = p ++ x :: a' ∧ b = p ++ y :: b' ∧ x ≠ y
  | [], [], _, h => absurd rfl h
  | [], _ :: _, h, _ => by simp at h
  | _ :: _, [], h, _ => by simp at h
  | x :: a, y :: b, h, hn => by
    by_cases e : x = y
    · subst e
      obtain ⟨p, u, v, a', b', h1, h2, h3⟩ := split_first (a := a) (b := b) (by simpa using h) fun e => hn (by rw [e])
      exact ⟨x :: p, u, v, a', b', by rw [h1]; rfl, by rw [h2]; rfl, h3⟩
    · exact ⟨[], x, y, a, b, rfl, rfl, e⟩
theorem first_of {g : Int → List Int} {p n : Nat} (h : ∀ j : Nat, j < p → g (j : Int) = []) (hp : g (p : Int) = [(p : Int)]) (hn : p < n) : ∃ L, (irange 0 n).flatMap g = (p : Int) :: L := by
  obtain ⟨d, rfl⟩ : ∃ d, n = p + 1 + d := ⟨n - (p + 1), by omega⟩
  have e : irange 0 (p + 1 + d) = irange 0 p ++ ((p : Int) :: (List.range d).map fun x => ((p + 1 + x : Nat) : Int)) := by
    unfold irange
    rw [List.range_add, List.range_succ, List.map_append, List.map_append, List.map_map]
    simp only [List.append_assoc, List.map_cons, List.map_nil, List.cons_append, List.nil_append]
    congr 1
    congr 1
    · omega
    · refine List.map_congr_left fun x _ => ?_
      show (0 : Int) + ((p + 1 + x : Nat) : Int) = _
      omega
  have e0 : (irange 0 p).flatMap g = [] := List.flatMap_eq_nil_iff.mpr fun b hb => by
    obtain ⟨j, rfl, hj⟩ := mem_irange0 hb
    exact h j hj
  rw [e, List.flatMap_append, e0, List.flatMap_cons, hp]
  exact ⟨_, rfl⟩
theorem way_tail {a b p a' b' : List Nat} {x y : Nat} (l o : Nat) (da : a.drop p.length = x :: a') (db : b.drop (p.length + 1) = b') (hb : Mem b') (hy : y = 48 ∨ y = 49) (la : a.length ≤ 1000) (lb : b.length ≤ 1000) (lb' : b'.length < 8) : ((scut a (some (p.length : Int)) none).bind fun s10 => (scount s10 [o]).bind fun n11 => (rep [l] n11).bind fun s12 => (scut b (some ((p.length : Int) + 1)) none).bind fun s13 => (t_way_from_all 8 [y] s13).bind fun c14 => (scat s12 c14).bind fun s15 => some s15) = some (List.replicate ((x :: a').count o) l ++ wfa y b') := by
  have cl : (x :: a').count o ≤ 1000 := by
    have h1 : (x :: a').count o ≤ (x :: a').length := List.count_le_length
    have h2 : (x :: a').length ≤ a.length := by rw [← da, List.length_drop]; omega
    omega
  have w := wfa_len b' y
  have ww : b'.length * b'.length ≤ 8 * 8 := Nat.mul_le_mul (by omega) (by omega)
  rw [bind_of (scut_from a _ (by omega)), da]
  show ((some (((x :: a').count o : Nat) : Int)).bind _) = _
  rw [Option.bind_some, bind_of (rep1_of l (by omega) (by omega)), Int.toNat_natCast, show (p.length : Int) + 1 = ((p.length + 1 : Nat) : Int) from rfl, bind_of (scut_from b _ (by omega)), db, bind_of (way_from_all_spec 8 b' y hb hy lb' (by omega)), bind_of (scat_of (by rw [List.length_replicate]; omega))]
theorem way_of_spec {n : Nat} {a b : List Nat} (ha : Mm n a) (hb : Mm n b) (h2 : n ≤ 7) : t_way_of a b = some (wayL a b) := by
  unfold t_way_of
  by_cases hab : a = b
  · subst hab
    rw [if_pos (by simp), wayL_self]
  · rw [if_neg (by simpa using hab)]
    obtain ⟨p, x, y, a', b', e1, e2, ne⟩ := split_first (by rw [ha.2, hb.2]) hab
    have la : a.length = n := ha.2
    have lb : b.length = n := hb.2
    have lp : n = p.length + 1 + a'.length := by rw [← la, e1]; simp; omega
    have lq : n = p.length + 1 + b'.length := by rw [← lb, e2]; simp; omega
    have gx : a[p.length]? = some x := by rw [e1]; simp
    have gy : b[p.length]? = some y := by rw [e2]; simp
    have sat1 : ∀ {m : List Nat} {j c : Nat}, m.length = n → m[j]? = some c → sat m (j : Int) = some [c] := fun hm hc => by
      unfold sat
      rw [if_pos (by omega), atN hc]
      rfl
    obtain ⟨L, hL⟩ := first_of (g := fun j => if (!((a[j.toNat]?).getD 0 == (b[j.toNat]?).getD 0)) = true then [j] else []) (p := p.length) (n := n) (fun j hj => by
      rw [Int.toNat_natCast, e1, e2, List.getElem?_append_left hj, List.getElem?_append_left hj, if_neg (by simp)]) (by
      rw [Int.toNat_natCast, gx, gy, if_pos (by simpa using ne)]) (by omega)
    have tc : tcmp (fun (b3 : Int) => (sat a b3).bind fun x4 => (sat b b3).bind fun x5 => if (!(x4 == x5)) = true then (some [b3]) else some []) (irange 0 n) = some ((p.length : Int) :: L) := by
      rw [← hL]
      refine tcmp_of (fun c hc => ?_) ?_
      · obtain ⟨j, rfl, hj⟩ := mem_irange0 hc
        obtain ⟨u, hu⟩ : ∃ u, a[j]? = some u := ⟨_, List.getElem?_eq_getElem (by omega)⟩
        obtain ⟨v, hv⟩ : ∃ v, b[j]? = some v := ⟨_, List.getElem?_eq_getElem (by omega)⟩
        rw [sat1 la hu, sat1 lb hv, Int.toNat_natCast, hu, hv]
        simp only [Option.bind_some, Option.getD]
        by_cases z : u = v
        · subst z; simp
        · rw [if_pos (by simpa using z), if_pos (by simpa using z)]
      · refine Nat.le_trans (length_flat1 fun j => ?_) ?_
        · split <;> simp
        · rw [irange_len]; omega
    have da : a.drop p.length = x :: a' := by rw [e1]; simp
    have db : b.drop (p.length + 1) = b' := by rw [e2]; simp
    have mb : Mem b' := fun c hc => hb.1 c (by rw [e2]; simp [hc])
    have hy := hb.1 y (by rw [e2]; simp)
    have a0 : atI ((p.length : Int) :: L) 0 = some (p.length : Int) := atN (j := 0) rfl
    rw [bind_of (len_nil (by omega)), bind_of (range1_of (by omega) (by omega)), Int.toNat_natCast, la, bind_of tc, bind_of a0, bind_of (sat1 lb gy), Option.bind_some]
    have fin : wayL a b = List.replicate ((x :: a').count (if y = 49 then 48 else 49)) (if y = 49 then 117 else 100) ++ wfa y b' := by
      rw [e1, e2, wayL_pre]
      show (if x = y then _ else _) = _
      rw [if_neg ne]
    rw [fin]
    rcases hy with rfl | rfl
    · exact way_tail 100 49 da db mb (.inl rfl) (by omega) (by omega) (by omega)
    · exact way_tail 117 48 da db mb (.inr rfl) (by omega) (by omega) (by omega)
abbrev NM := Int × List Nat
theorem dlt_nm {x y : NM} (h : x.1 ≠ y.1) : dlt (e2 eInt eStr x) (e2 eInt eStr y) = decide (x.1 < y.1) := by
  show PySem.W.dataLt (.tuple [.int x.1, .str _]) (.tuple [.int y.1, .str _]) = _
  rw [PySem.W.dataLt_pair (by rfl) (by rfl)]
  have e : PyData.eqv (.int x.1) (.int y.1) = false := by simp [PyData.eqv, h]
  rw [e, if_neg (by decide)]
  exact PySem.W.dataLt_int _ _
theorem shp_nm {n : Nat} {x : NM} (h : ∀ c ∈ x.2, c < 200) : (e2 eInt eStr x).shp (n + 1) = true := by
  show (D.tup [.int x.1, .str x.2]).shp (n + 1) = true
  simp only [D.shp, D.shpL, Bool.and_true, Bool.true_and, List.all_eq_true, decide_eq_true_eq]
  intro c hc
  have := h c hc
  omega
theorem best_ok {l : List NM} (h : l ≠ []) (hm : ∀ x ∈ l, ∀ c ∈ x.2, c < 200) : bestOk (l.map (e2 eInt eStr)) = true := by
  match l, h, hm with
  | x :: l, _, hm =>
    show (_ && _ && _ && _) = true
    simp only [Bool.and_eq_true, List.all_eq_true, List.mem_map]
    refine ⟨⟨⟨by simp [D.same, D.sameL], ?_⟩, ?_⟩, ?_⟩
    · rintro _ ⟨y, _, rfl⟩
      simp [D.same, D.sameL]
    · intro y hy
      rcases List.mem_cons.mp hy with rfl | hy
      · exact shp_nm (hm x List.mem_cons_self)
      · obtain ⟨z, hz, rfl⟩ := List.mem_map.mp hy
        exact shp_nm (hm z (List.mem_cons_of_mem _ hz))
    · rfl
theorem min_go : ∀ (l : List NM) (x : NM), let m := l.foldl (fun a y => if dlt (e2 eInt eStr y) (e2 eInt eStr a) then y else a) x
    (m = x ∨ m ∈ l) ∧ m.1 ≤ x.1 ∧ ∀ y ∈ l, m.1 ≤ y.1
  | [], x => ⟨.inl rfl, Int.le_refl _, fun y hy => by cases hy⟩
  | z :: l, x => by
    obtain ⟨h1, h2, h3⟩ := min_go l (if dlt (e2 eInt eStr z) (e2 eInt eStr x) then z else x)
    have key : (if dlt (e2 eInt eStr z) (e2 eInt eStr x) then z else x).1 ≤ x.1 ∧ (if dlt (e2 eInt eStr z) (e2 eInt eStr x) then z else x).1 ≤ z.1 := by
      by_cases e : z.1 = x.1
      · split <;> omega
      · rw [dlt_nm e]
        split
        · rename_i q
          have := of_decide_eq_true q
          omega
        · rename_i q
          have : ¬ z.1 < x.1 := fun w => q (decide_eq_true w)
          omega
    refine ⟨?_, Int.le_trans h2 key.1, fun y hy => ?_⟩
    · show List.foldl _ _ l = x ∨ List.foldl _ _ l ∈ z :: l
      rcases h1 with h1 | h1
      · rw [h1]
        split
        · exact .inr List.mem_cons_self
        · exact .inl rfl
      · exact .inr (List.mem_cons_of_mem _ h1)
    · rcases List.mem_cons.mp hy with rfl | hy
      · exact Int.le_trans h2 key.2
      · exact h3 y hy
theorem tmin_nm {l : List NM} (h : l ≠ []) (hm : ∀ x ∈ l, ∀ c ∈ x.2, c < 200) : ∃ m ∈ l, tminB (e2 eInt eStr) l = some m ∧ ∀ y ∈ l, m.1 ≤ y.1 := by
  have ok := best_ok h hm
  match l, h, ok with
  | x :: l, _, ok =>
    obtain ⟨h1, h2, h3⟩ := min_go l x
    refine ⟨_, ?_, by unfold tminB tbest; rw [if_pos ok], fun y hy => ?_⟩
    · rcases h1 with h1 | h1
      · rw [h1]; exact List.mem_cons_self
      · exact List.mem_cons_of_mem _ h1
    · rcases List.mem_cons.mp hy with rfl | hy
      · exact h2
      · exact h3 y hy
end Mi.T
namespace Mi.T
open PySem PySem.Spec PyProof.Rows L2 GxR
def boxL (Q : Nat) : Nat → List (List Nat)
  | 0 => [[]]
  | n + 1 => (List.range (Q + 1)).flatMap fun a => (boxL Q n).map fun l => a :: l
theorem flatMap_len {α β : Type} {f : α → List β} {k : Nat} : ∀ {l : List α}, (∀ a ∈ l, (f a).length = k) → (l.flatMap f).length = l.length * k
  | [], _ => by simp
  | a :: l, h => by
    rw [List.flatMap_cons, List.length_append, h a List.mem_cons_self, flatMap_len fun b hb => h b (List.mem_cons_of_mem _ hb), List.length_cons, Nat.succ_mul, Nat.add_comm]
theorem box_len (Q : Nat) : ∀ n, (boxL Q n).length = (Q + 1) ^ n
  | 0 => rfl
  | n + 1 => by
    unfold boxL
    rw [flatMap_len (k := (Q + 1) ^ n) (fun a _ => by rw [List.length_map, box_len Q n]), List.length_range, Nat.pow_succ, Nat.mul_comm]
theorem box_mem {Q : Nat} : ∀ {n : Nat} {x : List Nat}, x ∈ boxL Q n ↔ x.length = n ∧ ∀ c ∈ x, c ≤ Q
  | 0, x => by
    show x ∈ [[]] ↔ _
    rw [List.mem_singleton]
    exact ⟨fun h => by rw [h]; exact ⟨rfl, fun c hc => by cases hc⟩, fun h => List.length_eq_zero_iff.mp h.1⟩
  | n + 1, x => by
    unfold boxL
    rw [List.mem_flatMap]
    constructor
    · rintro ⟨a, ha, hx⟩
      obtain ⟨l, hl, rfl⟩ := List.mem_map.mp hx
      obtain ⟨h1, h2⟩ := box_mem.mp hl
      refine ⟨by rw [List.length_cons, h1], fun c hc => ?_⟩
      rcases List.mem_cons.mp hc with rfl | hc
      · have := List.mem_range.mp ha; omega
      · exact h2 c hc
    · rintro ⟨h1, h2⟩
      cases x with
      | nil => cases h1
      | cons a l => exact ⟨a, List.mem_range.mpr (by have := h2 a List.mem_cons_self; omega), List.mem_map.mpr ⟨l, box_mem.mpr ⟨by simpa using h1, fun c hc => h2 c (List.mem_cons_of_mem _ hc)⟩, rfl⟩⟩
theorem nodup_mapOn {α β : Type} {f : α → β} : ∀ {l : List α}, l.Nodup → (∀ a ∈ l, ∀ b ∈ l, f a = f b → a = b) → (l.map f).Nodup
  | [], _, _ => by simp
  | a :: l, h, inj => by
    rw [List.nodup_cons] at h
    rw [List.map_cons, List.nodup_cons]
    refine ⟨fun hm => ?_, nodup_mapOn h.2 fun x hx y hy => inj x (List.mem_cons_of_mem _ hx) y (List.mem_cons_of_mem _ hy)⟩
    obtain ⟨b, hb, e⟩ := List.mem_map.mp hm
    have := inj b (List.mem_cons_of_mem _ hb) a List.mem_cons_self e
    rw [this] at hb
    exact h.1 hb
theorem box_nodup (Q : Nat) : ∀ n, (boxL Q n).Nodup
  | 0 => by simp [boxL]
  | n + 1 => by
    unfold boxL
    have go : ∀ l : List Nat, l.Nodup → (l.flatMap fun a => (boxL Q n).map fun l => a :: l).Nodup := fun l => by
      induction l with
      | nil => intro _; simp
      | cons a l ih =>
        intro h
        rw [List.nodup_cons] at h
        rw [List.flatMap_cons, List.nodup_append]
        refine ⟨nodup_mapOn (box_nodup Q n) (fun x _ y _ e => (List.cons.inj e).2), ih h.2, fun x hx y hy e => ?_⟩
        obtain ⟨u, _, rfl⟩ := List.mem_map.mp hx
        obtain ⟨b, hb, hy⟩ := List.mem_flatMap.mp hy
        obtain ⟨v, _, rfl⟩ := List.mem_map.mp hy
        exact h.1 ((List.cons.inj e).1 ▸ hb)
    exact go _ List.nodup_range
theorem nodup_len {α : Type} [DecidableEq α] : ∀ {l r : List α}, l.Nodup → (∀ x ∈ l, x ∈ r) → l.length ≤ r.length
  | [], r, _, _ => Nat.zero_le _
  | a :: l, r, h, s => by
    rw [List.nodup_cons] at h
    have ha := s a List.mem_cons_self
    have := nodup_len (l := l) (r := r.erase a) h.2 fun x hx => (List.mem_erase_of_ne (fun e => h.1 (by rw [← e]; exact hx))).mpr (s x (List.mem_cons_of_mem _ hx))
    rw [List.length_erase_of_mem ha] at this
    have : 0 < r.length := List.length_pos_of_mem ha
    rw [List.length_cons]
    omega
theorem pigeon {α β : Type} [DecidableEq β] {f : α → β} {l : List α} {r : List β} (nd : l.Nodup) (s : ∀ x ∈ l, f x ∈ r) (h : r.length < l.length) : ∃ a ∈ l, ∃ b ∈ l, f a = f b ∧ a ≠ b :=
  Classical.byContradiction fun hn => by
    have inj : ∀ a ∈ l, ∀ b ∈ l, f a = f b → a = b := fun a ha b hb e => Classical.byContradiction fun hne => hn ⟨a, ha, b, hb, e, hne⟩
    have := nodup_len (nodup_mapOn nd inj) (r := r) (fun y hy => by
      obtain ⟨x, hx, rfl⟩ := List.mem_map.mp hy
      exact s x hx)
    rw [List.length_map] at this
    omega
def dotI : List Int → List Int → Int
  | a :: as, x :: xs => a * x + dotI as xs
  | _, _ => 0
theorem dotI_bound {K Q : Nat} : ∀ {a x : List Int}, (∀ c ∈ a, c.natAbs ≤ K) → (∀ c ∈ x, c.natAbs ≤ Q) → (dotI a x).natAbs ≤ x.length * (K * Q)
  | [], _, _, _ => by simp [dotI]
  | _ :: _, [], _, _ => by simp [dotI]
  | a :: as, x :: xs, ha, hx => by
    have ih := dotI_bound (a := as) (x := xs) (fun c hc => ha c (List.mem_cons_of_mem _ hc)) (fun c hc => hx c (List.mem_cons_of_mem _ hc))
    have h1 : (a * x).natAbs ≤ K * Q := by
      rw [Int.natAbs_mul]
      exact Nat.mul_le_mul (ha a List.mem_cons_self) (hx x List.mem_cons_self)
    show (a * x + dotI as xs).natAbs ≤ _
    rw [List.length_cons, Nat.succ_mul]
    have := Int.natAbs_add_le (a * x) (dotI as xs)
    omega
theorem dotI_sub : ∀ {a x y : List Int}, x.length = y.length → dotI a (List.zipWith (fun p q => p - q) x y) = dotI a x - dotI a y
  | [], _, _, _ => by simp [dotI]
  | _ :: _, [], [], _ => by simp [dotI]
  | a :: as, x :: xs, y :: ys, h => by
    show a * (x - y) + dotI as (List.zipWith _ xs ys) = (a * x + dotI as xs) - (a * y + dotI as ys)
    rw [dotI_sub (by simpa using h), Int.mul_sub]
    omega
def upI (x : List Nat) : List Int := x.map fun (c : Nat) => (c : Int)
theorem siegel {n K Q : Nat} (A : List (List Int)) (hA : ∀ a ∈ A, ∀ c ∈ a, c.natAbs ≤ K) (hQ : (2 * (n * (K * Q)) + 1) ^ A.length < (Q + 1) ^ n) :
    ∃ z : List Int, z.length = n ∧ (∃ c ∈ z, c ≠ 0) ∧ (∀ c ∈ z, c.natAbs ≤ Q) ∧ ∀ a ∈ A, dotI a z = 0 := by
  let code : List Nat → List Nat := fun x => A.map fun a => (dotI a (upI x) + (n * (K * Q) : Nat)).toNat
  have upb : ∀ {x : List Nat}, (∀ c ∈ x, c ≤ Q) → ∀ c ∈ upI x, c.natAbs ≤ Q := fun h c hc => by
    obtain ⟨d, hd, rfl⟩ := List.mem_map.mp hc
    simpa using h d hd
  have bnd : ∀ {x : List Nat}, x.length = n → (∀ c ∈ x, c ≤ Q) → ∀ a ∈ A, (dotI a (upI x)).natAbs ≤ n * (K * Q) := fun hl h a ha => by
    have := dotI_bound (hA a ha) (upb h)
    rw [show (upI _).length = _ from List.length_map .., hl] at this
    exact this
  obtain ⟨x, hx, y, hy, e, ne⟩ := pigeon (f := code) (l := boxL Q n) (r := boxL (2 * (n * (K * Q))) A.length) (box_nodup Q n) (fun x hx => by
    obtain ⟨h1, h2⟩ := box_mem.mp hx
    refine box_mem.mpr ⟨List.length_map .., fun c hc => ?_⟩
    obtain ⟨a, ha, rfl⟩ := List.mem_map.mp hc
    have := bnd h1 h2 a ha
    omega) (by rw [box_len, box_len]; exact hQ)
  obtain ⟨x1, x2⟩ := box_mem.mp hx
  obtain ⟨y1, y2⟩ := box_mem.mp hy
  refine ⟨List.zipWith (fun p q => p - q) (upI x) (upI y), by simp [upI, x1, y1], ?_, fun c hc => ?_, fun a ha => ?_⟩
  · refine Classical.byContradiction fun hn => ne ?_
    have all0 : ∀ c ∈ List.zipWith (fun p q => p - q) (upI x) (upI y), c = 0 := fun c hc => Classical.byContradiction fun h => hn ⟨c, hc, h⟩
    have go : ∀ (x y : List Nat), x.length = y.length → (∀ c ∈ List.zipWith (fun p q => p - q) (upI x) (upI y), c = 0) → x = y := fun x => by
      induction x with
      | nil => intro y h _; exact (List.length_eq_zero_iff.mp h.symm).symm
      | cons a x ih =>
        intro y h h0
        cases y with
        | nil => cases h
        | cons b y =>
          have h1 : ((a : Int) - (b : Int)) = 0 := h0 _ List.mem_cons_self
          have h2 := ih y (by simpa using h) fun c hc => h0 c (List.mem_cons_of_mem _ hc)
          rw [h2, show a = b by omega]
    exact go x y (by rw [x1, y1]) all0
  · have go : ∀ (x y : List Nat), (∀ c ∈ x, c ≤ Q) → (∀ c ∈ y, c ≤ Q) → ∀ c ∈ List.zipWith (fun p q => p - q) (upI x) (upI y), c.natAbs ≤ Q := fun x => by
      induction x with
      | nil => intro y _ _ c hc; simp [upI] at hc
      | cons a x ih =>
        intro y hx hy c hc
        cases y with
        | nil => simp [upI] at hc
        | cons b y =>
          rcases List.mem_cons.mp (show c ∈ ((a : Int) - (b : Int)) :: List.zipWith (fun p q => p - q) (upI x) (upI y) from hc) with rfl | hc
          · have := hx a List.mem_cons_self
            have := hy b List.mem_cons_self
            omega
          · exact ih y (fun c hc => hx c (List.mem_cons_of_mem _ hc)) (fun c hc => hy c (List.mem_cons_of_mem _ hc)) c hc
    exact go x y x2 y2 c hc
  · rw [dotI_sub (by simp [upI, x1, y1])]
    have go : ∀ (L : List (List Int)), (∀ a ∈ L, (dotI a (upI x)).natAbs ≤ n * (K * Q) ∧ (dotI a (upI y)).natAbs ≤ n * (K * Q)) → (L.map fun a => (dotI a (upI x) + (n * (K * Q) : Nat)).toNat) = (L.map fun a => (dotI a (upI y) + (n * (K * Q) : Nat)).toNat) → ∀ a ∈ L, dotI a (upI x) = dotI a (upI y) := fun L => by
      induction L with
      | nil => intro _ _ a ha; cases ha
      | cons b L ih =>
        intro hb e a ha
        rw [List.map_cons, List.map_cons] at e
        obtain ⟨e1, e2⟩ := List.cons.inj e
        rcases List.mem_cons.mp ha with rfl | ha
        · have := hb a List.mem_cons_self
          omega
        · exact ih (fun c hc => hb c (List.mem_cons_of_mem _ hc)) e2 a ha
    have := go A (fun a ha => ⟨bnd x1 x2 a ha, bnd y1 y2 a ha⟩) e a ha
    omega
namespace Sx
def sm (f : Nat → Rat) : Nat → Rat
  | 0 => 0
  | n + 1 => sm f n + f n
theorem sm_congr {f g : Nat → Rat} : ∀ {n : Nat}, (∀ i, i < n → f i = g i) → sm f n = sm g n
  | 0, _ => rfl
  | n + 1, h => by
    show sm f n + f n = sm g n + g n
    rw [sm_congr fun i hi => h i (by omega), h n (by omega)]
theorem sm_zero : ∀ n : Nat, sm (fun _ => 0) n = 0
  | 0 => rfl
  | n + 1 => by
    show sm (fun _ => 0) n + 0 = 0
    rw [sm_zero n]
    grind
theorem sm_add (f g : Nat → Rat) : ∀ n : Nat, sm (fun i => f i + g i) n = sm f n + sm g n
  | 0 => by show (0 : Rat) = 0 + 0; grind
  | n + 1 => by
    show sm (fun i => f i + g i) n + (f n + g n) = (sm f n + f n) + (sm g n + g n)
    rw [sm_add f g n]
    grind
theorem sm_mul (c : Rat) (f : Nat → Rat) : ∀ n : Nat, sm (fun i => c * f i) n = c * sm f n
  | 0 => by show (0 : Rat) = c * 0; grind
  | n + 1 => by
    show sm (fun i => c * f i) n + c * f n = c * (sm f n + f n)
    rw [sm_mul c f n]
    grind
theorem sm_swap (f : Nat → Nat → Rat) (m : Nat) : ∀ n : Nat, sm (fun i => sm (fun j => f i j) m) n = sm (fun j => sm (fun i => f i j) n) m
  | 0 => by
    show (0 : Rat) = sm (fun j => 0) m
    rw [sm_zero]
  | n + 1 => by
    show sm (fun i => sm (fun j => f i j) m) n + sm (fun j => f n j) m = sm (fun j => sm (fun i => f i j) n + f n j) m
    rw [sm_swap f m n, sm_add]
theorem sm_one {f : Nat → Rat} {k : Nat} : ∀ {n : Nat}, k < n → (∀ i, i < n → i ≠ k → f i = 0) → sm f n = f k
  | 0, h, _ => by omega
  | n + 1, h, h0 => by
    show sm f n + f n = f k
    by_cases e : k = n
    · subst e
      rw [sm_congr (g := fun _ => 0) fun i hi => h0 i (by omega) (by omega), sm_zero]
      grind
    · rw [sm_one (k := k) (by omega) fun i hi hk => h0 i (by omega) hk, h0 n (by omega) (fun z => e z.symm)]
      grind
theorem sm_head (f : Nat → Rat) : ∀ n : Nat, sm f (n + 1) = f 0 + sm (fun i => f (i + 1)) n
  | 0 => by show (0 : Rat) + f 0 = f 0 + 0; grind
  | n + 1 => by
    show sm f (n + 1) + f (n + 1) = f 0 + (sm (fun i => f (i + 1)) n + f (n + 1))
    rw [sm_head f n]
    grind
theorem dotI_sm : ∀ (z : List Int) (f : Nat → Int), ((dotI ((List.range z.length).map f) z : Int) : Rat) = sm (fun k => ((z[k]?.getD 0 : Int) : Rat) * ((f k : Int) : Rat)) z.length
  | [], _ => rfl
  | a :: z, f => by
    rw [List.length_cons, List.range_succ_eq_map, List.map_cons, List.map_map]
    show ((f 0 * a + dotI _ z : Int) : Rat) = _
    rw [sm_head, Rat.intCast_add, Rat.intCast_mul]
    have ih := dotI_sm z (fun k => f (k + 1))
    rw [show (f ∘ Nat.succ) = fun k => f (k + 1) from rfl, ih]
    show (f 0 : Rat) * (a : Rat) + _ = (a : Rat) * (f 0 : Rat) + _
    have : sm (fun k => ((z[k]?.getD 0 : Int) : Rat) * ((f (k + 1) : Int) : Rat)) z.length = sm (fun i => (((a :: z)[i + 1]?.getD 0 : Int) : Rat) * ((f (i + 1) : Int) : Rat)) z.length := sm_congr fun i _ => by simp
    rw [← this]
    grind
def Sz (q : Rat) : Prop := q.num.natAbs < 2 ^ 990 ∧ q.den < 2 ^ 990
theorem log990 {n : Nat} (h : n < 2 ^ 990) : n.log2 < 990 := PySem.Flt.log2_lt_of (by decide) h
theorem imulW_sz {a b : Int} (ha : a.natAbs < 2 ^ 990) (hb : b.natAbs < 2 ^ 990) : imulW a b = some (a * b) := imulW_log (by
  have := log990 ha
  have := log990 hb
  omega)
theorem lt1980 {a b : Nat} (ha : a < 2 ^ 990) (hb : b < 2 ^ 990) : a * b < 2 ^ 2000 := by
  refine Nat.lt_of_le_of_lt (Nat.mul_le_mul (Nat.le_of_lt ha) (Nat.le_of_lt hb)) ?_
  rw [← Nat.pow_add]
  exact Nat.pow_lt_pow_right (by decide) (by decide)
theorem ratio_w {x y : Int} (hy : 0 < y) (hb : y.natAbs < 2 ^ 2000) : t_ratio x y = some (en (mkRat x y.toNat)) := by
  have h1 : 0 < Nat.gcd x.natAbs y.natAbs := Nat.gcd_pos_of_pos_right _ (by omega)
  have h2 : Nat.gcd x.natAbs y.natAbs ≤ y.natAbs := Nat.gcd_le_right _ (by omega)
  have g1 : igcd x y ≠ 0 := by unfold igcd; omega
  have g2 : (igcd x y).natAbs < 2 ^ 2000 := Nat.lt_of_le_of_lt (by unfold igcd; rw [Int.natAbs_natCast]; exact h2) hb
  have ne : y.toNat ≠ 0 := by omega
  have e : igcd x y = ((Nat.gcd y.toNat x.natAbs : Nat) : Int) := by
    unfold igcd
    rw [Nat.gcd_comm, show y.natAbs = y.toNat by omega]
  unfold t_ratio
  rw [if_pos (decide_eq_true hy), Option.bind_some]
  unfold ifdivZ en
  rw [if_pos ⟨g1, g2⟩, if_pos ⟨g1, g2⟩, Option.bind_some, Option.bind_some, Rat.num_mkRat, Rat.den_mkRat, if_neg ne, if_neg ne]
  rw [Int.fdiv_eq_ediv_of_nonneg _ (by rw [e]; omega), Int.fdiv_eq_ediv_of_nonneg _ (by rw [e]; omega), e]
  have : (y : Int) = ((y.toNat : Nat) : Int) := by omega
  congr 2
  rw [this, Int.toNat_natCast]
  rfl
theorem natAbs_den (q : Rat) : ((q.den : Int)).natAbs = q.den := Int.natAbs_natCast _
theorem dens_w {p q : Rat} (hp : Sz p) (hq : Sz q) : 0 < (p.den : Int) * (q.den : Int) ∧ ((p.den : Int) * (q.den : Int)).natAbs < 2 ^ 2000 ∧ ((p.den : Int) * (q.den : Int)).toNat = p.den * q.den := by
  have e : (p.den : Int) * (q.den : Int) = ((p.den * q.den : Nat) : Int) := by simp
  refine ⟨Int.mul_pos (den_pos' p) (den_pos' q), ?_, by rw [e, Int.toNat_natCast]⟩
  rw [e, Int.natAbs_natCast]
  exact lt1980 hp.2 hq.2
theorem by_w {p q : Rat} (hp : Sz p) (hq : Sz q) : t_by (en p) (en q) = some (en (p * q)) := by
  obtain ⟨d1, d2, d3⟩ := dens_w hp hq
  unfold t_by
  show ((imulW p.num q.num).bind _) = _
  rw [imulW_sz hp.1 hq.1, Option.bind_some]
  show ((imulW (p.den : Int) (q.den : Int)).bind _) = _
  rw [imulW_sz (by rw [natAbs_den]; exact hp.2) (by rw [natAbs_den]; exact hq.2), Option.bind_some, ratio_w d1 d2, Option.bind_some, d3, Rat.mul_def' p q]
theorem minus_w {p q : Rat} (hp : Sz p) (hq : Sz q) : t_minus (en p) (en q) = some (en (p - q)) := by
  obtain ⟨d1, d2, d3⟩ := dens_w hp hq
  unfold t_minus
  show ((imulW p.num (q.den : Int)).bind _) = _
  rw [imulW_sz hp.1 (by rw [natAbs_den]; exact hq.2), Option.bind_some]
  show ((imulW q.num (p.den : Int)).bind _) = _
  rw [imulW_sz hq.1 (by rw [natAbs_den]; exact hp.2), Option.bind_some]
  show ((imulW (p.den : Int) (q.den : Int)).bind _) = _
  rw [imulW_sz (by rw [natAbs_den]; exact hp.2) (by rw [natAbs_den]; exact hq.2), Option.bind_some, ratio_w d1 d2, Option.bind_some, d3, Rat.sub_def' p q]
theorem ratio_wn {x y : Int} (hy : y < 0) (hb : y.natAbs < 2 ^ 2000) : t_ratio x y = some (en (mkRat (-x) (-y).toNat)) := by
  have h := ratio_w (x := -x) (y := -y) (by omega) (by rw [Int.natAbs_neg]; exact hb)
  rw [← h]
  have e : igcd (-x) (-y) = igcd x y := by unfold igcd; rw [Int.natAbs_neg, Int.natAbs_neg]
  have f : ∀ z g : Int, ifdivZ z (0 - g) = ifdivZ (-z) g := fun z g => by
    unfold ifdivZ
    have e1 : (0 - g).natAbs = g.natAbs := by rw [Int.zero_sub, Int.natAbs_neg]
    have e2 : z.fdiv (0 - g) = (-z).fdiv g := by
      have := Int.neg_fdiv_neg (-z) g
      rw [Int.neg_neg] at this
      rw [Int.zero_sub, this]
    rw [e1, e2]
    by_cases h : g = 0
    · rw [if_neg (by rw [h]; simp), if_neg (by rw [h]; simp)]
    · by_cases k : g.natAbs < 2 ^ 2000
      · rw [if_pos ⟨by omega, k⟩, if_pos ⟨h, k⟩]
      · rw [if_neg (fun z => k z.2), if_neg (fun z => k z.2)]
  unfold t_ratio
  rw [if_neg (by rw [decide_eq_true_eq]; omega), if_pos (decide_eq_true (by omega)), Option.bind_some, Option.bind_some, e, f, f]
theorem over_w {p q : Rat} (hp : Sz p) (hq : Sz q) (h0 : q ≠ 0) : t_over (en p) (en q) = some (en (p / q)) := by
  have qn : q.num ≠ 0 := fun z => h0 (Rat.num_eq_zero.mp z)
  have pd : ((p.den : Int) : Rat) ≠ 0 := by have := den_pos' p; exact_mod_cast (by omega : (p.den : Int) ≠ 0)
  have qd : ((q.den : Int) : Rat) ≠ 0 := by have := den_pos' q; exact_mod_cast (by omega : (q.den : Int) ≠ 0)
  have qr : ((q.num : Int) : Rat) ≠ 0 := by exact_mod_cast qn
  have ep : p * ((p.den : Int) : Rat) = ((p.num : Int) : Rat) := by
    have h1 : ((p.num : Int) : Rat) / ((p.den : Int) : Rat) = p := by
      have h2 := Rat.mkRat_self p
      rw [Rat.mkRat_eq_div] at h2
      exact h2
    have h3 := pd
    grind
  have eq : q * ((q.den : Int) : Rat) = ((q.num : Int) : Rat) := by
    have h1 : ((q.num : Int) : Rat) / ((q.den : Int) : Rat) = q := by
      have h2 := Rat.mkRat_self q
      rw [Rat.mkRat_eq_div] at h2
      exact h2
    have h3 := qd
    grind
  have bb : ((p.den : Int) * q.num).natAbs < 2 ^ 2000 := by
    rw [Int.natAbs_mul, natAbs_den]
    exact lt1980 hp.2 hq.1
  unfold t_over
  show ((imulW p.num (q.den : Int)).bind _) = _
  rw [imulW_sz hp.1 (by rw [natAbs_den]; exact hq.2), Option.bind_some]
  show ((imulW (p.den : Int) q.num).bind _) = _
  rw [imulW_sz (by rw [natAbs_den]; exact hp.2) hq.1, Option.bind_some]
  have val : ∀ (x : Int) (y : Nat), (y : Int) ≠ 0 → ((x : Int) : Rat) * ((((p.den : Int) * q.num) : Int) : Rat) = (((p.num * (q.den : Int)) : Int) : Rat) * (((y : Int)) : Rat) → mkRat x y = p / q := fun x y hy h => by
    rw [Rat.mkRat_eq_div]
    have yr : ((y : Int) : Rat) ≠ 0 := by exact_mod_cast hy
    rw [Rat.intCast_mul, Rat.intCast_mul, ← ep, ← eq] at h
    have : ((x : Int) : Rat) * q = p * ((y : Int) : Rat) := by grind
    show ((x : Int) : Rat) / ((y : Int) : Rat) = p / q
    grind
  by_cases hs : 0 < q.num
  · have pos : 0 < (p.den : Int) * q.num := Int.mul_pos (den_pos' p) hs
    rw [ratio_w pos bb, Option.bind_some]
    congr 2
    exact val _ _ (by omega) (by rw [Int.toNat_of_nonneg (by omega)])
  · have neg : (p.den : Int) * q.num < 0 := Int.mul_neg_of_pos_of_neg (den_pos' p) (by omega)
    rw [ratio_wn neg bb, Option.bind_some]
    congr 2
    refine val _ _ (by omega) ?_
    rw [Int.toNat_of_nonneg (by omega), Rat.intCast_neg, Rat.intCast_neg]
    grind
def Sb (B : Nat) (q : Rat) : Prop := q.num.natAbs ≤ B ∧ q.den ≤ B
theorem den_ne (q : Rat) : ((q.den : Int) : Rat) ≠ 0 := by have := q.den_pos; exact_mod_cast (by omega : (q.den : Int) ≠ 0)
theorem num_eq (q : Rat) : q * ((q.den : Int) : Rat) = ((q.num : Int) : Rat) := by
  have h1 : ((q.num : Int) : Rat) / ((q.den : Int) : Rat) = q := by
    have h2 := Rat.mkRat_self q
    rw [Rat.mkRat_eq_div] at h2
    exact h2
  have h3 := den_ne q
  grind
theorem sb_of {q : Rat} {a b : Int} (hb : b ≠ 0) (h : q * (b : Rat) = (a : Rat)) : q.num.natAbs ≤ a.natAbs ∧ q.den ≤ b.natAbs := by
  have e : q.num * b = a * (q.den : Int) := by
    have h1 := num_eq q
    have : ((q.num * b : Int) : Rat) = ((a * (q.den : Int) : Int) : Rat) := by
      rw [Rat.intCast_mul, Rat.intCast_mul, ← h1, ← h]
      grind
    exact_mod_cast this
  have e2 : q.num.natAbs * b.natAbs = a.natAbs * q.den := by
    have := congrArg Int.natAbs e
    rw [Int.natAbs_mul, Int.natAbs_mul, Int.natAbs_natCast] at this
    exact this
  have cop : Nat.Coprime q.den q.num.natAbs := (Nat.coprime_comm).mp q.reduced
  have d1 : q.den ∣ b.natAbs := cop.dvd_of_dvd_mul_left ⟨a.natAbs, by rw [e2, Nat.mul_comm]⟩
  obtain ⟨t, ht⟩ := d1
  have t0 : 0 < t := Nat.pos_of_ne_zero fun z => by rw [z] at ht; omega
  refine ⟨?_, by rw [ht]; exact Nat.le_mul_of_pos_right _ t0⟩
  have e3 : q.num.natAbs * t = a.natAbs := by
    rw [ht] at e2
    have : q.den * (q.num.natAbs * t) = q.den * a.natAbs := by
      rw [Nat.mul_comm q.den a.natAbs, ← e2, ← Nat.mul_assoc, Nat.mul_comm q.den q.num.natAbs, Nat.mul_assoc]
    exact Nat.eq_of_mul_eq_mul_left q.den_pos this
  rw [← e3]
  exact Nat.le_mul_of_pos_right _ t0
theorem sb_frac {B : Nat} {q : Rat} {a b : Int} (hb : b ≠ 0) (h : q * (b : Rat) = (a : Rat)) (ha : a.natAbs ≤ B) (hb2 : b.natAbs ≤ B) : Sb B q := by
  obtain ⟨h1, h2⟩ := sb_of hb h
  exact ⟨by omega, by omega⟩
theorem Sb.mono {B C : Nat} {q : Rat} (h : Sb B q) (hc : B ≤ C) : Sb C q := ⟨Nat.le_trans h.1 hc, Nat.le_trans h.2 hc⟩
theorem Sb.sz {B : Nat} {q : Rat} (h : Sb B q) (hB : B < 2 ^ 990) : Sz q := ⟨Nat.lt_of_le_of_lt h.1 hB, Nat.lt_of_le_of_lt h.2 hB⟩
theorem Sb.mul {B C : Nat} {p q : Rat} (hp : Sb B p) (hq : Sb C q) : Sb (B * C) (p * q) := by
  refine sb_frac (a := p.num * q.num) (b := (p.den : Int) * (q.den : Int)) (fun z => ?_) ?_ ?_ ?_
  · have h1 := p.den_pos
    have h2 := q.den_pos
    rcases Int.mul_eq_zero.mp z with h | h <;> omega
  · rw [Rat.intCast_mul, Rat.intCast_mul, ← num_eq p, ← num_eq q]
    grind
  · rw [Int.natAbs_mul]
    exact Nat.mul_le_mul hp.1 hq.1
  · rw [Int.natAbs_mul, Int.natAbs_natCast, Int.natAbs_natCast]
    exact Nat.mul_le_mul hp.2 hq.2
theorem Sb.div {B C : Nat} {p q : Rat} (hp : Sb B p) (hq : Sb C q) (h0 : q ≠ 0) : Sb (B * C) (p / q) := by
  refine sb_frac (a := p.num * (q.den : Int)) (b := (p.den : Int) * q.num) (fun z => ?_) ?_ ?_ ?_
  · have h1 := p.den_pos
    rcases Int.mul_eq_zero.mp z with h | h
    · omega
    · exact h0 (Rat.num_eq_zero.mp h)
  · rw [Rat.intCast_mul, Rat.intCast_mul, ← num_eq p, ← num_eq q]
    grind
  · rw [Int.natAbs_mul, Int.natAbs_natCast]
    exact Nat.mul_le_mul hp.1 hq.2
  · rw [Int.natAbs_mul, Int.natAbs_natCast]
    exact Nat.mul_le_mul hp.2 hq.1
theorem sm_int {m : Nat} {f : Nat → Rat} {Q : Nat} : ∀ {k : Nat}, k ≤ m → (∀ i, i < m → ∃ a : Int, f i = (a : Rat) ∧ a.natAbs ≤ Q) → ∃ a : Int, sm f k = (a : Rat) ∧ a.natAbs ≤ k * Q
  | 0, _, _ => ⟨0, by show (0 : Rat) = _; simp, by simp⟩
  | k + 1, hk, h => by
    obtain ⟨a, h1, h2⟩ := sm_int (k := k) (by omega) h
    obtain ⟨c, h3, h4⟩ := h k (by omega)
    refine ⟨a + c, ?_, ?_⟩
    · show sm f k + f k = _
      rw [h1, h3, Rat.intCast_add]
    · have := Int.natAbs_add_le a c
      rw [Nat.add_mul, Nat.one_mul]
      omega
def rowL (w : Nat) (f : Nat → Rat) : List (Int × Int) := (List.range w).map fun c => en (f c)
theorem atI_get {α : Type} {l : List α} {k : Nat} {a : α} (h : l[k]? = some a) : atI l (k : Int) = some a := by
  obtain ⟨hk, e⟩ := List.getElem?_eq_some_iff.mp h
  rw [atI_of l (by omega) (by omega)]
  exact congrArg some e
theorem atI_row {w c : Nat} {f : Nat → Rat} (h : c < w) : atI (rowL w f) (c : Int) = some (en (f c)) := atI_get (by simp [rowL, h])
theorem flat_one {α β : Type} (g : α → β) : ∀ l : List α, (l.flatMap fun a => [g a]) = l.map g
  | [] => rfl
  | a :: l => by rw [List.flatMap_cons, flat_one g l]; rfl
theorem tcmp_row {α : Type} {w : Nat} (hw : w ≤ 100000) {F : Nat → α} {t : α → Option (List (Int × Int))} {g : Nat → Rat} (h : ∀ c, c < w → t (F c) = some [en (g c)]) : tcmp t ((List.range w).map F) = some (rowL w g) := by
  rw [tcmp_mp, tcmp_of (g := fun c => [en (g c)]) (fun c hc => h c (List.mem_range.mp hc)) (by rw [flat_one, List.length_map, List.length_range]; omega), flat_one]
  rfl
end Sx
end Mi.T
namespace Mi.T
open PySem PySem.Spec PyProof.Rows L2 GxR
theorem list_idx {α β : Type} (l : List α) (d : α) (f : α → β) : l.map f = (List.range l.length).map fun i => f (l.getD i d) := by
  refine List.ext_getElem (by simp) fun i h1 h2 => ?_
  rw [List.length_map] at h1
  simp [List.getD_eq_getElem?_getD, List.getElem?_eq_getElem h1]
theorem getD_mem {α : Type} {l : List α} {i : Nat} {d : α} (h : i < l.length) : l.getD i d ∈ l := by
  rw [List.getD_eq_getElem?_getD, List.getElem?_eq_getElem h]
  exact List.getElem_mem h
def zer (n : Nat) : List Nat := List.replicate n 48
def memo (n : Nat) (s : List Nat) : List Nat := behL (zer n) s
theorem zer_mm (n : Nat) : Mm n (zer n) := ⟨mem_replicate (.inl rfl), List.length_replicate⟩
theorem memo_mm (n : Nat) (s : List Nat) : Mm n (memo n s) := ⟨beh_mem s (zer_mm n).1, by unfold memo; rw [beh_len]; exact (zer_mm n).2⟩
def hv (n : Nat) (s : List Nat) (r : Rl) : Rat := if hold (memo n s) r = true then 1 else 0
def rk (n : Nat) : Nat := (relL n).length
theorem flat1 {α β : Type} (g : α → β) : ∀ l : List α, (l.flatMap fun a => [g a]) = l.map g
  | [] => rfl
  | a :: l => by rw [List.flatMap_cons, flat1 g l]; rfl
theorem row_of_spec {n : Nat} (n1 : 1 ≤ n) (n6 : n ≤ 6) {s : List Nat} : t_row_of n s = some ((relL n).map fun r => if hold (memo n s) r = true then 1 else 0) := by
  unfold t_row_of
  rw [rep1_of 48 (by omega) (by omega), Option.bind_some, Int.toNat_natCast]
  rw [bind_of (behind_spec (m := List.replicate n 48) (s := s) (by rw [List.length_replicate]; omega)), bind_of (arn n n1 n6)]
  rw [bind_of (tcmp_of (g := fun r => [(if hold (memo n s) r = true then 1 else 0 : Int)]) (fun r hr => by
    show ((t_holds (memo n s) r).bind _) = _
    rw [bind_of (holds_spec (memo_mm n s) (by omega) hr)]) (by
    have := rel_len (n := n) (by omega)
    rw [flat1, List.length_map]
    omega)), flat1]
theorem rk_le {n : Nat} (n6 : n ≤ 6) : rk n ≤ 45 := rel_len (by omega)
theorem num_zero {q : Rat} : ((en q).1 == 0) = decide (q = 0) := by
  rw [Bool.eq_iff_iff, beq_iff_eq, decide_eq_true_eq]
  exact Rat.num_eq_zero
abbrev Vec := Nat → Rat
inductive Sp (w : Nat) (L : List Vec) : Vec → Prop
  | base {f} : f ∈ L → Sp w L f
  | zero : Sp w L fun _ => 0
  | add {f g} : Sp w L f → Sp w L g → Sp w L fun c => f c + g c
  | mul {f} (a : Rat) : Sp w L f → Sp w L fun c => a * f c
  | cong {f g} : Sp w L f → (∀ c, c < w → f c = g c) → Sp w L g
theorem Sp.trans {w : Nat} {L L' : List Vec} (h : ∀ f ∈ L, Sp w L' f) {v : Vec} (s : Sp w L v) : Sp w L' v := by
  induction s with
  | base hf => exact h _ hf
  | zero => exact .zero
  | add _ _ h1 h2 => exact .add h1 h2
  | mul a _ h1 => exact .mul a h1
  | cong _ e h1 => exact .cong h1 e
def vat (L : List Vec) (i : Nat) : Vec := L.getD i fun _ => 0
theorem sm_skip (f : Nat → Rat) {j0 : Nat} : ∀ {p : Nat}, j0 < p + 1 → Sx.sm f (p + 1) = f j0 + Sx.sm (fun j => f (if j < j0 then j else j + 1)) p
  | 0, h => by
    have : j0 = 0 := by omega
    subst this
    show (0 : Rat) + f 0 = f 0 + 0
    grind
  | p + 1, h => by
    by_cases e : j0 = p + 1
    · subst e
      show Sx.sm f (p + 1) + f (p + 1) = f (p + 1) + Sx.sm _ (p + 1)
      rw [Sx.sm_congr (f := fun j => f (if j < p + 1 then j else j + 1)) (g := f) fun j hj => by rw [if_pos hj]]
      grind
    · have ih := sm_skip f (j0 := j0) (p := p) (by omega)
      show Sx.sm f (p + 1) + f (p + 1) = f j0 + (Sx.sm (fun j => f (if j < j0 then j else j + 1)) p + f (if p < j0 then p else p + 1))
      rw [ih, if_neg (by omega)]
      grind
theorem kernel_exists : ∀ (q p : Nat), q < p → ∀ C : Nat → Nat → Rat, ∃ x : Nat → Rat, (∃ j, j < p ∧ x j ≠ 0) ∧ ∀ i, i < q → Sx.sm (fun j => C i j * x j) p = 0
  | 0, p, h, C => ⟨fun j => if j = 0 then 1 else 0, ⟨0, h, by show (if (0 : Nat) = 0 then (1 : Rat) else 0) ≠ 0; rw [if_pos rfl]; decide⟩, fun i hi => by omega⟩
  | q + 1, p, h, C => by
    by_cases z : ∀ j, j < p → C q j = 0
    · obtain ⟨x, h1, h2⟩ := kernel_exists q p (by omega) C
      refine ⟨x, h1, fun i hi => ?_⟩
      by_cases e : i = q
      · subst e
        rw [Sx.sm_congr (g := fun _ => 0) fun j hj => by rw [z j hj]; grind, Sx.sm_zero]
      · exact h2 i (by omega)
    · obtain ⟨j0, hj0, hne⟩ : ∃ j0, j0 < p ∧ C q j0 ≠ 0 := Classical.byContradiction fun h => z fun j hj => Classical.byContradiction fun h2 => h ⟨j, hj, h2⟩
      obtain ⟨p', rfl⟩ : ∃ p', p = p' + 1 := ⟨p - 1, by omega⟩
      let s : Nat → Nat := fun j => if j < j0 then j else j + 1
      obtain ⟨y, ⟨j1, hj1, hy⟩, h2⟩ := kernel_exists q p' (by omega) fun i j => C i (s j) - C i j0 * (C q (s j) / C q j0)
      let x : Nat → Rat := fun c => if c = j0 then -(Sx.sm (fun j => C q (s j) * y j) p') / C q j0 else if c < j0 then y c else y (c - 1)
      have xs : ∀ j, x (s j) = y j := fun j => by
        show (if s j = j0 then _ else if s j < j0 then y (s j) else y (s j - 1)) = y j
        show (if (if j < j0 then j else j + 1) = j0 then _ else if (if j < j0 then j else j + 1) < j0 then y (if j < j0 then j else j + 1) else y ((if j < j0 then j else j + 1) - 1)) = y j
        by_cases h : j < j0
        · rw [if_pos h, if_neg (by omega), if_pos h]
        · rw [if_neg h, if_neg (by omega), if_neg (by omega), show j + 1 - 1 = j by omega]
      have x0 : x j0 = -(Sx.sm (fun j => C q (s j) * y j) p') / C q j0 := if_pos rfl
      have row : ∀ i, Sx.sm (fun j => C i j * x j) (p' + 1) = C i j0 * x j0 + Sx.sm (fun j => C i (s j) * y j) p' := fun i => by
        rw [sm_skip _ hj0]
        congr 1
        refine Sx.sm_congr fun j _ => ?_
        show C i (s j) * x (s j) = _
        rw [xs]
      refine ⟨x, ⟨s j1, by show (if j1 < j0 then j1 else j1 + 1) < p' + 1; split <;> omega, by rw [xs]; exact hy⟩, fun i hi => ?_⟩
      rw [row, x0]
      by_cases e : i = q
      · subst e
        grind
      · have h3 := h2 i (by omega)
        rw [Sx.sm_congr (g := fun j => C i (s j) * y j + (-(C i j0) / C q j0) * (C q (s j) * y j)) fun j _ => by grind, Sx.sm_add, Sx.sm_mul] at h3
        grind
def Ind (w : Nat) (F : List Vec) : Prop := ∀ a : Nat → Rat, (∀ c, c < w → Sx.sm (fun i => a i * vat F i c) F.length = 0) → ∀ i, i < F.length → a i = 0
theorem sp_coef {w : Nat} {L : List Vec} {v : Vec} (s : Sp w L v) : ∃ a : Nat → Rat, ∀ c, c < w → v c = Sx.sm (fun i => a i * vat L i c) L.length := by
  induction s with
  | base hf =>
    rename_i f
    obtain ⟨i, hi, e⟩ := List.mem_iff_getElem.mp hf
    refine ⟨fun j => if j = i then 1 else 0, fun c _ => ?_⟩
    rw [Sx.sm_one (k := i) hi fun j _ hj => by show (if j = i then (1 : Rat) else 0) * _ = 0; rw [if_neg hj]; grind]
    show f c = (if i = i then (1 : Rat) else 0) * vat L i c
    rw [if_pos rfl]
    have : vat L i = f := by
      unfold vat
      rw [List.getD_eq_getElem?_getD, List.getElem?_eq_getElem hi, e]
      rfl
    rw [this]
    grind
  | zero => exact ⟨fun _ => 0, fun c _ => by rw [Sx.sm_congr (g := fun _ => 0) fun j _ => by grind, Sx.sm_zero]⟩
  | add _ _ h1 h2 =>
    obtain ⟨a, ha⟩ := h1
    obtain ⟨b, hb⟩ := h2
    refine ⟨fun i => a i + b i, fun c hc => ?_⟩
    (try dsimp only)
    rw [ha c hc, hb c hc, ← Sx.sm_add]
    exact Sx.sm_congr fun j _ => by grind
  | mul k _ h1 =>
    obtain ⟨a, ha⟩ := h1
    refine ⟨fun i => k * a i, fun c hc => ?_⟩
    (try dsimp only)
    rw [ha c hc, ← Sx.sm_mul]
    exact Sx.sm_congr fun j _ => by grind
  | cong _ e h1 =>
    obtain ⟨a, ha⟩ := h1
    exact ⟨a, fun c hc => by rw [← e c hc, ha c hc]⟩
theorem sp_of_coef {w : Nat} {L : List Vec} (a : Nat → Rat) : ∀ k, k ≤ L.length → Sp w L fun c => Sx.sm (fun i => a i * vat L i c) k
  | 0, _ => .zero
  | k + 1, hk => by
    have h1 := sp_of_coef a (w := w) k (Nat.le_of_succ_le hk)
    refine .add h1 (.mul (a k) (.base ?_))
    unfold vat
    exact getD_mem hk
theorem steinitz {w : Nat} {F L : List Vec} (I : Ind w F) (h : ∀ f ∈ F, Sp w L f) : F.length ≤ L.length := by
  refine Nat.not_lt.mp fun lt => ?_
  have hC : ∃ C : Nat → Nat → Rat, ∀ j, j < F.length → ∀ c, c < w → vat F j c = Sx.sm (fun i => C i j * vat L i c) L.length := by
    have ex : ∀ j, j < F.length → ∃ a : Nat → Rat, ∀ c, c < w → vat F j c = Sx.sm (fun i => a i * vat L i c) L.length := fun j hj => sp_coef (h _ (getD_mem hj))
    refine ⟨fun i j => if h : j < F.length then Classical.choose (ex j h) i else 0, fun j hj c hc => ?_⟩
    have := Classical.choose_spec (ex j hj) c hc
    rw [this]
    exact Sx.sm_congr fun i _ => by
      show _ = (if h : j < F.length then Classical.choose (ex j h) i else 0) * _
      rw [show (if h : j < F.length then Classical.choose (ex j h) i else 0) = Classical.choose (ex j hj) i from dif_pos hj]
  obtain ⟨C, hC⟩ := hC
  obtain ⟨x, ⟨j, hj, hx⟩, hk⟩ := kernel_exists L.length F.length lt C
  refine hx (I x (fun c hc => ?_) j hj)
  rw [Sx.sm_congr (g := fun j => Sx.sm (fun i => vat L i c * (C i j * x j)) L.length) fun j hj => by
    rw [hC j hj c hc, ← Sx.sm_mul]
    exact Sx.sm_congr fun i _ => by grind]
  rw [Sx.sm_swap, Sx.sm_congr (g := fun _ => 0) fun i hi => by rw [Sx.sm_mul, hk i hi]; grind, Sx.sm_zero]
theorem vat_app {F : List Vec} {v : Vec} (i : Nat) : vat (F ++ [v]) i = if i < F.length then vat F i else if i = F.length then v else fun _ => 0 := by
  unfold vat
  rw [List.getD_eq_getElem?_getD, List.getD_eq_getElem?_getD]
  by_cases h : i < F.length
  · rw [if_pos h, List.getElem?_append_left h]
  · rw [if_neg h, List.getElem?_append_right (by omega)]
    by_cases e : i = F.length
    · rw [if_pos e, e, Nat.sub_self]; rfl
    · rw [if_neg e, List.getElem?_eq_none (by simp; omega)]; rfl
theorem sum_app {F : List Vec} {v : Vec} (a : Nat → Rat) (c : Nat) : Sx.sm (fun i => a i * vat (F ++ [v]) i c) (F ++ [v]).length = Sx.sm (fun i => a i * vat F i c) F.length + a F.length * v c := by
  rw [List.length_append, List.length_singleton]
  show Sx.sm _ F.length + a F.length * vat (F ++ [v]) F.length c = _
  rw [Sx.sm_congr (g := fun i => a i * vat F i c) fun i hi => by rw [vat_app, if_pos hi], vat_app, if_neg (Nat.lt_irrefl _), if_pos rfl]
theorem Ind.more {w : Nat} {F : List Vec} {v : Vec} (I : Ind w F) (h : ¬ Sp w F v) : Ind w (F ++ [v]) := fun a ha => by
  have e := fun c hc => (sum_app (F := F) (v := v) a c).symm.trans (ha c hc)
  have a0 : a F.length = 0 := Classical.byContradiction fun z => h (by
    refine .cong (.mul (-(1 / a F.length)) (sp_of_coef a F.length (Nat.le_refl _))) fun c hc => ?_
    have := e c hc
    grind)
  intro i hi
  rw [List.length_append, List.length_singleton] at hi
  by_cases hl : i = F.length
  · rw [hl]; exact a0
  · refine I a (fun c hc => ?_) i (by omega)
    have := e c hc
    rw [a0] at this
    grind
theorem ind_nil (w : Nat) : Ind w [] := fun a _ i hi => by simp at hi
structure Bas (w : Nat) (L F : List Vec) : Prop where
  ind : Ind w F
  sub : ∀ f ∈ F, Sp w L f
  all : ∀ f ∈ L, Sp w F f
theorem Bas.len {w : Nat} {L L' F F' : List Vec} (A : Bas w L F) (B : Bas w L' F') (h : ∀ f ∈ L, Sp w L' f) : F.length ≤ F'.length :=
  steinitz A.ind fun f hf => ((A.sub f hf).trans h).trans B.all
theorem Bas.one {w : Nat} {L F F' : List Vec} {v : Vec} (A : Bas w L F) (B : Bas w (L ++ [v]) F') : F'.length = F.length ↔ Sp w L v := by
  have le : F.length ≤ F'.length := A.len B fun f hf => .base (List.mem_append_left _ hf)
  constructor
  · intro e
    refine Classical.byContradiction fun z => ?_
    have I2 : Ind w (F ++ [v]) := A.ind.more fun s => z (s.trans A.sub)
    have := steinitz I2 (L := F') fun f hf => by
      rcases List.mem_append.mp hf with h | h
      · exact ((A.sub f h).trans fun g hg => .base (List.mem_append_left _ hg)).trans B.all
      · rw [List.mem_singleton.mp h]
        exact B.all v (List.mem_append_right _ (List.mem_singleton.mpr rfl))
    rw [List.length_append, List.length_singleton] at this
    omega
  · intro s
    refine Nat.le_antisymm (B.len A fun f hf => ?_) le
    rcases List.mem_append.mp hf with h | h
    · exact .base h
    · rw [List.mem_singleton.mp h]; exact s
def vecOf (n : Nat) (s : List Nat) : Vec := fun c => hv n s ((relL n).getD c (0, 0))
theorem vec01 (n : Nat) (s : List Nat) (c : Nat) : vecOf n s c = 0 ∨ vecOf n s c = 1 := by
  unfold vecOf hv
  split
  · exact .inr rfl
  · exact .inl rfl
def elm (k : Nat) (top f : Vec) : Vec := fun c => f c + -(f k / top k) * top c
def units (w : Nat) : List Vec := (List.range w).map fun k c => if c = k then 1 else 0
theorem vat_mem {L : List Vec} {i : Nat} (h : i < L.length) : vat L i ∈ L := by unfold vat; exact getD_mem h
theorem vat_units {w i : Nat} (h : i < w) (c : Nat) : vat (units w) i c = if c = i then 1 else 0 := by
  unfold vat units
  rw [List.getD_eq_getElem?_getD, List.getElem?_map, List.getElem?_range h]
  rfl
theorem units_len (w : Nat) : (units w).length = w := by unfold units; rw [List.length_map, List.length_range]
theorem sp_units (w : Nat) (f : Vec) : Sp w (units w) f := by
  refine .cong (sp_of_coef f (units w).length (Nat.le_refl _)) fun c hc => ?_
  rw [units_len]
  show Sx.sm (fun i => f i * vat (units w) i c) w = f c
  rw [Sx.sm_one (k := c) hc fun i hi hne => by rw [vat_units hi, if_neg (fun z => hne z.symm)]; grind, vat_units hc, if_pos rfl]
  grind
theorem ind_le {w : Nat} {F : List Vec} (I : Ind w F) : F.length ≤ w := by
  have := steinitz I (L := units w) fun f _ => sp_units w f
  rwa [units_len] at this
theorem Sp.sub {w : Nat} {L : List Vec} {f g : Vec} (hf : Sp w L f) (hg : Sp w L g) : Sp w L fun c => f c - g c := by
  refine .cong (.add hf (.mul (-1) hg)) fun c _ => ?_
  (try dsimp only)
  grind
theorem sp_snoc {w : Nat} {F : List Vec} {f g : Vec} (h : Sp w (F ++ [f]) g) : ∃ (a : Rat) (q : Vec), Sp w F q ∧ ∀ c, c < w → g c = q c + a * f c := by
  induction h with
  | base hf =>
    rename_i g
    rcases List.mem_append.mp hf with h | h
    · exact ⟨0, g, .base h, fun c _ => by grind⟩
    · rw [List.mem_singleton.mp h]
      exact ⟨1, fun _ => 0, .zero, fun c _ => by grind⟩
  | zero => exact ⟨0, fun _ => 0, .zero, fun c _ => by grind⟩
  | add _ _ h1 h2 =>
    obtain ⟨a, q, q1, q2⟩ := h1
    obtain ⟨b, r, r1, r2⟩ := h2
    exact ⟨a + b, _, .add q1 r1, fun c hc => by
      (try dsimp only)
      rw [q2 c hc, r2 c hc]
      grind⟩
  | mul k _ h1 =>
    obtain ⟨a, q, q1, q2⟩ := h1
    exact ⟨k * a, _, .mul k q1, fun c hc => by
      (try dsimp only)
      rw [q2 c hc]
      grind⟩
  | cong _ e h1 =>
    obtain ⟨a, q, q1, q2⟩ := h1
    exact ⟨a, q, q1, fun c hc => by rw [← e c hc, q2 c hc]⟩
theorem Sp.up {w : Nat} {F : List Vec} {f g : Vec} (h : Sp w F g) : Sp w (F ++ [f]) g := h.trans fun q hq => .base (List.mem_append_left _ hq)
inductive Ec (w : Nat) : List Vec → List Vec → List Nat → Prop
  | nil : Ec w [] [] []
  | snoc {F O : List Vec} {ld : List Nat} {f o : Vec} {k : Nat} : Ec w F O ld → k < w → f k ≠ 0 → (∀ c, c < k → f c = 0) → (∀ q ∈ ld, f q = 0) → Sp w F (fun c => f c - o c) → (∀ c, o c = 0 ∨ o c = 1) → Ec w (F ++ [f]) (O ++ [o]) (ld ++ [k])
theorem Ec.lens {w : Nat} {F O : List Vec} {ld : List Nat} (E : Ec w F O ld) : O.length = F.length ∧ ld.length = F.length := by
  induction E with
  | nil => exact ⟨rfl, rfl⟩
  | snoc _ _ _ _ _ _ _ ih => exact ⟨by rw [List.length_append, List.length_append, ih.1]; rfl, by rw [List.length_append, List.length_append, ih.2]; rfl⟩
theorem Ec.lts {w : Nat} {F O : List Vec} {ld : List Nat} (E : Ec w F O ld) : ∀ q ∈ ld, q < w := by
  induction E with
  | nil => exact fun q h => (nomatch h)
  | snoc _ hk _ _ _ _ _ ih =>
    intro q hq
    rcases List.mem_append.mp hq with h | h
    · exact ih q h
    · rw [List.mem_singleton.mp h]; exact hk
theorem Ec.zero {w : Nat} {F O : List Vec} {ld : List Nat} (E : Ec w F O ld) : ∀ {g : Vec}, Sp w F g → (∀ q ∈ ld, g q = 0) → ∀ c, c < w → g c = 0 := by
  induction E with
  | nil =>
    intro g s _ c hc
    obtain ⟨a, ha⟩ := sp_coef s
    rw [ha c hc]
    rfl
  | snoc E hk hn hl hq hs ho ih =>
    rename_i F O ld f o k
    intro g s z c hc
    obtain ⟨a, q, q1, q2⟩ := sp_snoc s
    have lt := E.lts
    have q0 := ih q1 fun p hp => by
      have e := q2 p (lt p hp)
      rw [hq p hp, z p (List.mem_append_left _ hp)] at e
      grind
    have e := q2 k hk
    rw [z k (List.mem_append_right _ (List.mem_singleton.mpr rfl)), q0 k hk] at e
    have a0 : a * f k = 0 := by grind
    rcases Rat.mul_eq_zero.mp a0 with h | h
    · rw [q2 c hc, q0 c hc, h]
      grind
    · exact absurd h hn
theorem Ec.fo {w : Nat} {F O : List Vec} {ld : List Nat} (E : Ec w F O ld) : (∀ f ∈ F, Sp w O f) ∧ ∀ o ∈ O, Sp w F o := by
  induction E with
  | nil => exact ⟨fun f h => (nomatch h), fun f h => (nomatch h)⟩
  | snoc E hk hn hl hq hs ho ih =>
    rename_i F O ld f o k
    constructor
    · intro g hg
      rcases List.mem_append.mp hg with h | h
      · exact (ih.1 g h).up
      · rw [List.mem_singleton.mp h]
        refine .cong (.add (hs.trans ih.1).up (.base (List.mem_append_right _ (List.mem_singleton.mpr rfl)))) fun c _ => ?_
        (try dsimp only)
        grind
    · intro g hg
      rcases List.mem_append.mp hg with h | h
      · exact (ih.2 g h).up
      · rw [List.mem_singleton.mp h]
        refine .cong (Sp.sub (.base (List.mem_append_right _ (List.mem_singleton.mpr rfl))) hs.up) fun c _ => ?_
        (try dsimp only)
        grind
theorem Ec.ind {w : Nat} {F O : List Vec} {ld : List Nat} (E : Ec w F O ld) : Ind w O := by
  induction E with
  | nil => exact ind_nil w
  | snoc E hk hn hl hq hs ho ih =>
    rename_i F O ld f o k
    refine ih.more fun s => hn ?_
    have sF : Sp w F o := s.trans E.fo.2
    have sf : Sp w F f := .cong (.add hs sF) fun c _ => by (try dsimp only); grind
    exact E.zero sf hq k hk
theorem Ec.o01 {w : Nat} {F O : List Vec} {ld : List Nat} (E : Ec w F O ld) : ∀ o ∈ O, ∀ c, o c = 0 ∨ o c = 1 := by
  induction E with
  | nil => exact fun o h => (nomatch h)
  | snoc _ _ _ _ _ _ ho ih =>
    intro g hg
    rcases List.mem_append.mp hg with h | h
    · exact ih g h
    · rw [List.mem_singleton.mp h]; exact ho
def eQ : Nat := 2 ^ 75
def eB : Nat := 2 ^ 79
theorem e_room : ((List.range 16).all fun j => decide ((2 * ((j + 1) * (1 * eQ)) + 1) ^ j < (eQ + 1) ^ (j + 1))) = true := by decide +kernel
theorem Ec.small {w : Nat} {F O : List Vec} {ld : List Nat} (E : Ec w F O ld) (hl : F.length ≤ 15) {v u : Vec} (hv : ∀ c, v c = 0 ∨ v c = 1) (hs : Sp w F fun c => u c - v c) (hz : ∀ q ∈ ld, u q = 0) : ∀ c, c < w → Sx.Sb eB (u c) := by
  have ln := E.lens
  have h01 : ∀ i, i < O.length + 1 → ∀ c, vat (v :: O) i c = 0 ∨ vat (v :: O) i c = 1 := fun i hi c => by
    cases i with
    | zero => exact hv c
    | succ i => exact E.o01 _ (vat_mem (by omega)) c
  have cast : ∀ i, i < O.length + 1 → ∀ c, (((vat (v :: O) i c).num : Int) : Rat) = vat (v :: O) i c := fun i hi c => by
    rcases h01 i hi c with h | h <;> rw [h] <;> rfl
  obtain ⟨z, z1, z2, z3, z4⟩ := siegel (n := O.length + 1) (K := 1) (Q := eQ) (ld.map fun q => (List.range (O.length + 1)).map fun i => (vat (v :: O) i q).num) (fun a ha c hc => by
    obtain ⟨q, _, rfl⟩ := List.mem_map.mp ha
    obtain ⟨i, hi, rfl⟩ := List.mem_map.mp hc
    rcases h01 i (List.mem_range.mp hi) q with h | h <;> rw [h] <;> decide) (by
    rw [List.length_map, ln.2, ln.1]
    exact of_decide_eq_true (List.all_eq_true.mp e_room F.length (List.mem_range.mpr (by omega))))
  let y : Nat → Rat := fun i => ((z[i]?.getD 0 : Int) : Rat)
  let S : Nat → Rat := fun c => Sx.sm (fun i => y (i + 1) * vat O i c) O.length
  have full : ∀ c, Sx.sm (fun i => y i * vat (v :: O) i c) (O.length + 1) = y 0 * v c + S c := fun c => by
    rw [Sx.sm_head]
    rfl
  have led : ∀ q ∈ ld, y 0 * v q + S q = 0 := fun q hq => by
    have h := z4 _ (List.mem_map.mpr ⟨q, hq, rfl⟩)
    have h2 := Sx.dotI_sm z fun i => (vat (v :: O) i q).num
    rw [z1, h] at h2
    rw [← full q, Sx.sm_congr (g := fun k => ((z[k]?.getD 0 : Int) : Rat) * (((vat (v :: O) k q).num : Int) : Rat)) fun i hi => by rw [cast i hi q], ← h2]
    rfl
  have sS : Sp w F S := (sp_of_coef (fun i => y (i + 1)) (w := w) O.length (Nat.le_refl _)).trans E.fo.2
  have key : ∀ c, c < w → y 0 * u c = y 0 * v c + S c := fun c hc => by
    have g := E.zero (g := fun c => y 0 * (u c - v c) - S c) (Sp.sub (.mul (y 0) hs) sS) (fun q hq => by
      have := led q hq
      rw [hz q hq]
      grind) c hc
    grind
  have y0 : y 0 ≠ 0 := fun h => by
    have s0 : ∀ c, c < w → S c = 0 := fun c hc => by
      have := key c hc
      rw [h] at this
      grind
    have hi := E.ind (fun i => y (i + 1)) s0
    obtain ⟨c, hc, hne⟩ := z2
    obtain ⟨i, hi2, rfl⟩ := List.mem_iff_getElem.mp hc
    refine hne ?_
    have yi : y i = ((z[i] : Int) : Rat) := by
      show ((z[i]?.getD 0 : Int) : Rat) = _
      rw [List.getElem?_eq_getElem hi2]
      rfl
    have y0i : y i = 0 := by
      cases i with
      | zero => exact h
      | succ i => exact hi i (by omega)
    rw [yi] at y0i
    exact_mod_cast y0i
  intro c hc
  have yb : ∀ i, i < O.length + 1 → ∃ a : Int, y i = (a : Rat) ∧ a.natAbs ≤ eQ := fun i hi => by
    refine ⟨z[i]?.getD 0, rfl, ?_⟩
    rw [List.getElem?_eq_getElem (by omega)]
    exact z3 _ (List.getElem_mem _)
  obtain ⟨a, a1, a2⟩ := Sx.sm_int (f := fun i => y i * vat (v :: O) i c) (Q := eQ) (Nat.le_refl (O.length + 1)) fun i hi => by
    obtain ⟨a, h1, h2⟩ := yb i hi
    rcases h01 i hi c with h | h
    · exact ⟨0, by rw [h]; show y i * 0 = 0; grind, Nat.zero_le _⟩
    · exact ⟨a, by rw [h, ← h1]; grind, h2⟩
  obtain ⟨b, b1, b2⟩ := yb 0 (by omega)
  rw [full c] at a1
  refine Sx.sb_frac (a := a) (b := b) (fun e => y0 (by rw [b1, e]; rfl)) ?_ ?_ ?_
  · rw [← a1, ← b1, ← key c hc]
    grind
  · refine Nat.le_trans a2 ?_
    have : eB = 16 * eQ := by decide
    rw [this]
    exact Nat.mul_le_mul (by omega) (Nat.le_refl _)
  · exact Nat.le_trans b2 (by decide)
def encR (w : Nat) (L : List Vec) : List (List (Int × Int)) := L.map (Sx.rowL w)
def ldT : Int × (Int × Int) → Unit → Option (Ctl (Option Int) Unit) := fun (b2 : Int × (Int × Int)) (s1 : Unit) =>
      if (!(b2.2.1 == 0)) = true then (
        some (.ret (some b2.1)))
      else (
        some (.nxt ()))
theorem lead_eq (row_ : List (Int × Int)) : t_lead row_ = (fldR ldT (enumI 0 row_) ()).bind fun c3 => ctl c3 (fun (s4 : Unit) => some (none : Option Int)) (fun r => some r) := rfl
theorem lead_pass : ∀ (l : List (Int × Int)) (i : Int), (∀ x ∈ l, (x.1 == 0) = true) → fldR ldT (enumI i l) () = some (.nxt ())
  | [], _, _ => rfl
  | x :: l, i, h => by
    unfold enumI fldR
    show (ldT (i, x) ()).bind _ = _
    unfold ldT
    rw [h x List.mem_cons_self, if_neg (by decide), Option.bind_some]
    exact lead_pass l (i + 1) fun y hy => h y (List.mem_cons_of_mem _ hy)
theorem lead_stop {x : Int × Int} {post : List (Int × Int)} (hx : (x.1 == 0) = false) : ∀ (pre : List (Int × Int)) (i : Int), (∀ y ∈ pre, (y.1 == 0) = true) → fldR ldT (enumI i (pre ++ x :: post)) () = some (.ret (some (i + (pre.length : Int))))
  | [], i, _ => by
    rw [List.nil_append]
    unfold enumI fldR
    show (ldT (i, x) ()).bind _ = _
    unfold ldT
    rw [hx, if_pos (by decide), Option.bind_some]
    show some (Ctl.ret (some i)) = some (Ctl.ret (some (i + ((0 : Nat) : Int))))
    rw [show i + ((0 : Nat) : Int) = i by omega]
  | y :: pre, i, h => by
    rw [List.cons_append]
    unfold enumI fldR
    show (ldT (i, y) ()).bind _ = _
    unfold ldT
    rw [h y List.mem_cons_self, if_neg (by decide), Option.bind_some]
    refine (lead_stop hx pre (i + 1) fun z hz => h z (List.mem_cons_of_mem _ hz)).trans ?_
    rw [List.length_cons, show i + 1 + (pre.length : Int) = i + ((pre.length + 1 : Nat) : Int) by omega]
theorem lead_none {w : Nat} {f : Vec} (h : ∀ c, c < w → f c = 0) : t_lead (Sx.rowL w f) = some none := by
  rw [lead_eq, lead_pass _ _ fun x hx => by
    obtain ⟨c, hc, rfl⟩ := List.mem_map.mp hx
    rw [num_zero, decide_eq_true (h c (List.mem_range.mp hc))]]
  rfl
theorem rowL_split {w k : Nat} (hk : k < w) (f : Vec) : ∃ post, Sx.rowL w f = Sx.rowL k f ++ en (f k) :: post := by
  refine ⟨((List.range' (k + 1) (w - k - 1)).map fun c => en (f c)), ?_⟩
  unfold Sx.rowL
  have : List.range w = List.range k ++ k :: List.range' (k + 1) (w - k - 1) := by
    rw [List.range_eq_range', List.range_eq_range']
    have e : w = k + (1 + (w - k - 1)) := by omega
    have e2 : List.range' k (1 + (w - k - 1)) = k :: List.range' (k + 1) (w - k - 1) := by
      rw [Nat.add_comm 1]
      rfl
    conv => lhs; rw [e]
    rw [← e2]
    have h := @List.range'_append_1 0 k (1 + (w - k - 1))
    rw [Nat.zero_add] at h
    exact h.symm
  rw [this, List.map_append, List.map_cons]
theorem lead_some {w k : Nat} {f : Vec} (hk : k < w) (h0 : f k ≠ 0) (low : ∀ c, c < k → f c = 0) : t_lead (Sx.rowL w f) = some (some (k : Int)) := by
  obtain ⟨post, e⟩ := rowL_split hk f
  rw [lead_eq, e, lead_stop (by rw [num_zero, decide_eq_false h0]) _ _ fun y hy => by
    obtain ⟨c, hc, rfl⟩ := List.mem_map.mp hy
    rw [num_zero, decide_eq_true (low c (List.mem_range.mp hc))]]
  show some (some ((0 : Int) + ((Sx.rowL k f).length : Int))) = _
  have : (Sx.rowL k f).length = k := by unfold Sx.rowL; rw [List.length_map, List.length_range]
  rw [this, Int.zero_add]
theorem first_nz (f : Vec) : ∀ w : Nat, (∀ c, c < w → f c = 0) ∨ ∃ k, k < w ∧ f k ≠ 0 ∧ ∀ c, c < k → f c = 0
  | 0 => .inl fun c hc => absurd hc (Nat.not_lt_zero _)
  | w + 1 => by
    rcases first_nz f w with h | ⟨k, h1, h2, h3⟩
    · by_cases e : f w = 0
      · refine .inl fun c hc => ?_
        by_cases z : c = w
        · rw [z]; exact e
        · exact h c (by omega)
      · exact .inr ⟨w, by omega, e, h⟩
    · exact .inr ⟨k, by omega, h2, h3⟩
theorem rowL_congr {w : Nat} {f g : Vec} (h : ∀ c, c < w → f c = g c) : Sx.rowL w f = Sx.rowL w g := List.map_congr_left fun c hc => by rw [h c (List.mem_range.mp hc)]
def redT : List (Int × Int) → List (Int × Int) → Option (List (Int × Int)) := fun (b2 : List (Int × Int)) (s1 : List (Int × Int)) =>
      (t_lead b2).bind fun c3 =>
      (c3).bind fun u4 =>
      (atI s1 u4).bind fun x5 =>
      if (!(x5.1 == 0)) = true then (
        (c3).bind fun u6 =>
        (atI s1 u6).bind fun x7 =>
        (c3).bind fun u8 =>
        (atI b2 u8).bind fun x10 =>
        (t_over x7 x10).bind fun c11 =>
        (tcmp (fun (b12 : (Int × Int) × (Int × Int)) => (t_by c11 b12.2).bind fun c13 => (t_minus b12.1 c13).bind fun c14 => some [c14]) (List.zip s1 b2)).bind fun l15 =>
        some l15)
      else (
        some s1)
theorem redo_eq (rows_ : List (List (Int × Int))) (row_ : List (Int × Int)) : t_reduced_by_o rows_ row_ = (fld redT rows_ row_).bind fun s16 => some (s16, rows_) := rfl
theorem redp_eq (rows_ : List (List (Int × Int))) (row_ : List (Int × Int)) : t_reduced_by rows_ row_ = (fld redT rows_ row_).bind fun s16 => some s16 := rfl
theorem eB_sz : eB < 2 ^ 990 ∧ eB * eB < 2 ^ 990 ∧ eB * eB * eB < 2 ^ 990 := by decide +kernel
theorem redT_step {w k : Nat} (hw : w ≤ 1000) {f u : Vec} (hk : k < w) (h0 : f k ≠ 0) (low : ∀ c, c < k → f c = 0) (bf : ∀ c, c < w → Sx.Sb eB (f c)) (bu : ∀ c, c < w → Sx.Sb eB (u c)) : redT (Sx.rowL w f) (Sx.rowL w u) = some (Sx.rowL w (elm k f u)) := by
  obtain ⟨z1, z2, z3⟩ := eB_sz
  unfold redT
  rw [lead_some hk h0 low, Option.bind_some, Option.bind_some, Sx.atI_row hk, Option.bind_some, num_zero]
  by_cases e : u k = 0
  · rw [decide_eq_true e]
    refine (if_neg (by decide)).trans (congrArg some (rowL_congr fun c _ => ?_))
    unfold elm
    rw [e]
    grind
  · rw [decide_eq_false e]
    refine (if_pos (by decide)).trans ?_
    have p1 := (bu k hk).div (bf k hk) h0
    rw [Option.bind_some, Sx.atI_row hk, Option.bind_some, Option.bind_some, Sx.atI_row hk, Option.bind_some, Sx.over_w ((bu k hk).sz z1) ((bf k hk).sz z1) h0, Option.bind_some]
    have zz : List.zip (Sx.rowL w u) (Sx.rowL w f) = (List.range w).map fun c => (en (u c), en (f c)) := by
      unfold Sx.rowL
      exact List.zip_map' ..
    rw [zz, Sx.tcmp_row (g := elm k f u) (by omega) fun c hc => by
      have p2 := p1.mul (bf c hc)
      show ((t_by (en (u k / f k)) (en (f c))).bind _) = _
      rw [Sx.by_w (p1.sz z2) ((bf c hc).sz z1), Option.bind_some]
      show ((t_minus (en (u c)) (en (u k / f k * f c))).bind _) = _
      rw [Sx.minus_w ((bu c hc).sz z1) (p2.sz z3), Option.bind_some]
      have : u c - u k / f k * f c = elm k f u c := by
        unfold elm
        grind
      rw [this]]
    rfl
theorem red_fold {w : Nat} (hw : w ≤ 15) {F O : List Vec} {ld : List Nat} (E : Ec w F O ld) : ∀ {v : Vec}, (∀ c, v c = 0 ∨ v c = 1) → ∃ u : Vec, fld redT (encR w F) (Sx.rowL w v) = some (Sx.rowL w u) ∧ Sp w F (fun c => u c - v c) ∧ ∀ q ∈ ld, u q = 0 := by
  induction E with
  | nil =>
    intro v _
    refine ⟨v, rfl, .cong .zero fun c _ => ?_, fun q h => (nomatch h)⟩
    (try dsimp only)
    grind
  | snoc E hk hn hl hq hs ho ih =>
    rename_i F O ld f o k
    intro v hv
    obtain ⟨u, h1, h2, h3⟩ := ih hv
    have l15 : F.length ≤ 15 := by
      have := ind_le E.ind
      have := E.lens.1
      omega
    have bf := E.small l15 ho hs hq
    have bu := E.small l15 hv h2 h3
    refine ⟨elm k f u, ?_, ?_, fun q hq2 => ?_⟩
    · have e : encR w (F ++ [f]) = encR w F ++ [Sx.rowL w f] := by unfold encR; rw [List.map_append]; rfl
      rw [e, fld_append, h1, Option.bind_some]
      unfold fld
      rw [redT_step (by omega) hk hn hl bf bu, Option.bind_some]
      rfl
    · refine .cong (.add h2.up (.mul (-(u k / f k)) (.base (List.mem_append_right _ (List.mem_singleton.mpr rfl))))) fun c _ => ?_
      show u c - v c + -(u k / f k) * f c = elm k f u c - v c
      unfold elm
      grind
    · unfold elm
      rcases List.mem_append.mp hq2 with h | h
      · rw [h3 q h, hq q h]
        grind
      · rw [List.mem_singleton.mp h]
        grind
def vr (n : Nat) (ws : List (List Nat)) : List Vec := ws.map (vecOf n)
theorem row_spec {n : Nat} (n1 : 1 ≤ n) (n6 : n ≤ 6) (s : List Nat) : ((t_row_of n s).bind fun c4 => tmap (fun (b5 : Int) => (b5, (1 : Int))) c4) = some (Sx.rowL (rk n) (vecOf n s)) := by
  have l := rk_le n6
  unfold rk at l
  rw [row_of_spec n1 n6, Option.bind_some, tmap_of (by rw [List.length_map]; omega), List.map_map, list_idx _ (0, 0)]
  refine congrArg some (List.map_congr_left fun c _ => ?_)
  show ((if hold (memo n s) ((relL n).getD c (0, 0)) = true then (1 : Int) else 0), (1 : Int)) = en (hv n s ((relL n).getD c (0, 0)))
  unfold hv
  split <;> rfl
def basT (span_ : Int) : List Nat → List (List (Int × Int)) → Option (List (List (Int × Int))) := fun (b3 : List Nat) (s2 : List (List (Int × Int))) =>
      (t_row_of span_ b3).bind fun c4 =>
      (tmap (fun (b5 : Int) => (b5, 1)) c4).bind fun l6 =>
      (t_reduced_by_o s2 l6).bind fun w7 =>
      (t_lead w7.1).bind fun c8 =>
      if c8.isSome = true then (
        (tapp w7.2 w7.1).bind fun found10 =>
        some found10)
      else (
        some w7.2)
theorem bas_eq (span_ : Int) (some_ : List (List Nat)) : t_basis_of span_ some_ = (fld (basT span_) some_ []).bind fun s11 => some s11 := rfl
theorem bas_step {n : Nat} (n1 : 1 ≤ n) (n6 : n ≤ 6) (hw : rk n ≤ 15) {F O : List Vec} {ld : List Nat} (E : Ec (rk n) F O ld) (s : List Nat) :
    (Sp (rk n) O (vecOf n s) ∧ basT n s (encR (rk n) F) = some (encR (rk n) F)) ∨ (¬ Sp (rk n) O (vecOf n s) ∧ ∃ f k, basT n s (encR (rk n) F) = some (encR (rk n) (F ++ [f])) ∧ Ec (rk n) (F ++ [f]) (O ++ [vecOf n s]) (ld ++ [k])) := by
  obtain ⟨u, h1, h2, h3⟩ := red_fold hw E (vec01 n s)
  obtain ⟨c4, r1, r2⟩ := Option.bind_eq_some_iff.mp (row_spec n1 n6 s)
  have ro : t_reduced_by_o (encR (rk n) F) (Sx.rowL (rk n) (vecOf n s)) = some (Sx.rowL (rk n) u, encR (rk n) F) := by
    rw [redo_eq, h1]
    rfl
  have lF : F.length ≤ 15 := by
    have := ind_le E.ind
    have := E.lens.1
    omega
  unfold basT
  rw [r1, Option.bind_some, r2, Option.bind_some, ro, Option.bind_some]
  show _ ∨ _
  rcases first_nz u (rk n) with z | ⟨k, k1, k2, k3⟩
  · refine .inl ⟨?_, ?_⟩
    · refine Sp.trans E.fo.1 (.cong (.mul (-1) h2) fun c hc => ?_)
      (try dsimp only)
      rw [z c hc]
      grind
    · show ((t_lead (Sx.rowL (rk n) u)).bind _) = _
      rw [lead_none z, Option.bind_some]
      exact if_neg (by decide)
  · refine .inr ⟨fun sp => ?_, u, k, ?_, .snoc E k1 k2 k3 h3 h2 (vec01 n s)⟩
    · have sF : Sp (rk n) F (vecOf n s) := sp.trans E.fo.2
      have su : Sp (rk n) F u := .cong (.add h2 sF) fun c _ => by (try dsimp only); grind
      exact k2 (E.zero su h3 k k1)
    · show ((t_lead (Sx.rowL (rk n) u)).bind _) = _
      rw [lead_some k1 k2 k3, Option.bind_some]
      refine (if_pos rfl).trans ?_
      show ((tapp (encR (rk n) F) (Sx.rowL (rk n) u)).bind _) = _
      rw [tapp_of (by unfold encR; rw [List.length_map]; omega), Option.bind_some]
      unfold encR
      rw [List.map_append]
      rfl
theorem bas_fold {n : Nat} (n1 : 1 ≤ n) (n6 : n ≤ 6) (hw : rk n ≤ 15) : ∀ (ws done : List (List Nat)) (F O : List Vec) (ld : List Nat), Ec (rk n) F O ld → (∀ o ∈ O, o ∈ vr n done) → (∀ v ∈ vr n done, Sp (rk n) O v) →
    ∃ F' O' ld', fld (basT n) ws (encR (rk n) F) = some (encR (rk n) F') ∧ Ec (rk n) F' O' ld' ∧ (∀ o ∈ O', o ∈ vr n (done ++ ws)) ∧ ∀ v ∈ vr n (done ++ ws), Sp (rk n) O' v
  | [], done, F, O, ld, E, h1, h2 => ⟨F, O, ld, rfl, E, by rw [List.append_nil]; exact h1, by rw [List.append_nil]; exact h2⟩
  | s :: ws, done, F, O, ld, E, h1, h2 => by
    have ev : ∀ x, x ∈ vr n (done ++ [s]) ↔ x ∈ vr n done ∨ x = vecOf n s := fun x => by
      unfold vr
      rw [List.map_append, List.mem_append]
      show _ ∨ x ∈ [vecOf n s] ↔ _
      rw [List.mem_singleton]
    have ea : done ++ s :: ws = (done ++ [s]) ++ ws := by rw [List.append_assoc]; rfl
    unfold fld
    rcases bas_step n1 n6 hw E s with ⟨b1, b2⟩ | ⟨b1, f, k, b2, b3⟩
    · rw [b2, Option.bind_some, ea]
      exact bas_fold n1 n6 hw ws _ F O ld E (fun o ho => (ev o).mpr (.inl (h1 o ho))) fun v hv => by
        rcases (ev v).mp hv with h | h
        · exact h2 v h
        · rw [h]; exact b1
    · rw [b2, Option.bind_some, ea]
      exact bas_fold n1 n6 hw ws _ _ _ _ b3 (fun o ho => by
        rcases List.mem_append.mp ho with h | h
        · exact (ev o).mpr (.inl (h1 o h))
        · exact (ev o).mpr (.inr (List.mem_singleton.mp h))) fun v hv => by
        rcases (ev v).mp hv with h | h
        · exact (h2 v h).up
        · rw [h]; exact .base (List.mem_append_right _ (List.mem_singleton.mpr rfl))
theorem basis_spec {n : Nat} (n1 : 1 ≤ n) (n6 : n ≤ 6) (hw : rk n ≤ 15) (ws : List (List Nat)) : ∃ F O ld, t_basis_of n ws = some (encR (rk n) F) ∧ Ec (rk n) F O ld ∧ Bas (rk n) (vr n ws) O := by
  obtain ⟨F, O, ld, h1, h2, h3, h4⟩ := bas_fold n1 n6 hw ws [] [] [] [] .nil (fun o h => (nomatch h)) (fun o h => (nomatch h))
  refine ⟨F, O, ld, ?_, h2, h2.ind, fun f hf => .base (h3 f hf), h4⟩
  rw [bas_eq]
  exact (bind_of (t := fld (basT n) ws []) h1).trans rfl
def cnrL : Nat → List (List Nat × List Nat)
  | 1 => [([49], [48])]
  | 2 => [([48, 49], [48, 48]), ([49, 48], [48, 49]), ([49, 49], [49, 48])]
  | 3 => [([48, 48, 49], [48, 48, 48]), ([48, 49, 48], [48, 48, 49]), ([48, 49, 49], [48, 49, 48]), ([49, 48, 48], [48, 49, 48]), ([49, 49, 48], [49, 48, 49]), ([49, 49, 49], [49, 49, 48])]
  | 4 => [([48, 48, 48, 49], [48, 48, 48, 48]), ([48, 48, 49, 48], [48, 48, 48, 49]), ([48, 48, 49, 49], [48, 48, 49, 48]), ([48, 49, 48, 48], [48, 48, 49, 48]), ([48, 49, 49, 48], [48, 49, 48, 49]), ([48, 49, 49, 49], [48, 49, 49, 48]), ([49, 48, 48, 48], [48, 49, 48, 48]), ([49, 49, 48, 48], [49, 48, 49, 48]), ([49, 49, 49, 48], [49, 49, 48, 49]), ([49, 49, 49, 49], [49, 49, 49, 48])]
  | 5 => [([48, 48, 48, 48, 49], [48, 48, 48, 48, 48]), ([48, 48, 48, 49, 48], [48, 48, 48, 48, 49]), ([48, 48, 48, 49, 49], [48, 48, 48, 49, 48]), ([48, 48, 49, 48, 48], [48, 48, 48, 49, 48]), ([48, 48, 49, 49, 48], [48, 48, 49, 48, 49]), ([48, 48, 49, 49, 49], [48, 48, 49, 49, 48]), ([48, 49, 48, 48, 48], [48, 48, 49, 48, 48]), ([48, 49, 49, 48, 48], [48, 49, 48, 49, 48]), ([48, 49, 49, 49, 48], [48, 49, 49, 48, 49]), ([48, 49, 49, 49, 49], [48, 49, 49, 49, 48]), ([49, 48, 48, 48, 48], [48, 49, 48, 48, 48]), ([49, 49, 48, 48, 48], [49, 48, 49, 48, 48]), ([49, 49, 49, 48, 48], [49, 49, 48, 49, 48]), ([49, 49, 49, 49, 48], [49, 49, 49, 48, 49]), ([49, 49, 49, 49, 49], [49, 49, 49, 49, 48])]
  | _ => []
def cnrB (n : Nat) : Bool := decide ((cnrL n).length = rk n) && ((List.range (rk n)).all fun c => let p := (cnrL n).getD c ([], []); (memsN n).contains p.1 && (memsN n).contains p.2 && (List.range (rk n)).all fun d => let r := (relL n).getD d (0, 0); if d = c then hold p.1 r && !hold p.2 r else hold p.1 r == hold p.2 r)
theorem cnr_1 : cnrB 1 = true := by decide +kernel
theorem cnr_2 : cnrB 2 = true := by decide +kernel
theorem cnr_3 : cnrB 3 = true := by decide +kernel
theorem cnr_4 : cnrB 4 = true := by decide +kernel
theorem cnr_5 : cnrB 5 = true := by decide +kernel
theorem cnrn (n : Nat) (h1 : 1 ≤ n) (h5 : n ≤ 5) : cnrB n = true := by
  match n, h1, h5 with
  | 1, _, _ => exact cnr_1
  | 2, _, _ => exact cnr_2
  | 3, _, _ => exact cnr_3
  | 4, _, _ => exact cnr_4
  | 5, _, _ => exact cnr_5
end Mi.T
namespace Mi.T
open PySem PySem.Spec PyProof.Rows L2 GxR
def vecM (n : Nat) (m : List Nat) : Vec := fun c => if hold m ((relL n).getD c (0, 0)) = true then 1 else 0
theorem vecM01 (n : Nat) (m : List Nat) (c : Nat) : vecM n m c = 0 ∨ vecM n m c = 1 := by
  unfold vecM
  split
  · exact .inr rfl
  · exact .inl rfl
theorem vecOf_M (n : Nat) (s : List Nat) : vecOf n s = vecM n (memo n s) := rfl
theorem on_in_spec {n : Nat} (n1 : 1 ≤ n) (n6 : n ≤ 6) {m : List Nat} (hm : Mm n m) : t_on_in m = some ((relL n).filter (hold m)) := by
  have l := rk_le n6
  unfold rk at l
  unfold t_on_in
  rw [len_nil (by rw [hm.2]; omega), Option.bind_some, hm.2, arn n n1 n6, Option.bind_some, tcmp_filL (p := hold m) (fun r hr => by
    rw [holds_spec hm (by omega) hr, Option.bind_some]
    split <;> rfl) (by omega)]
  rfl
theorem mrow_spec {n : Nat} (n6 : n ≤ 6) (m : List Nat) : tcmp (fun (b10 : Int × Int) => (tmem (e2 eInt eInt) b10 ((relL n).filter (hold m))).bind fun b11 => some [((if (false != b11) = true then (1 : Int) else 0), (1 : Int))]) (relL n) = some (Sx.rowL (rk n) (vecM n m)) := by
  have rl := rk_le n6
  unfold rk at rl
  rw [tcmp_of (g := fun r => [en (if hold m r = true then 1 else 0)]) (fun r hr => by
    rw [tmem_prs, Option.bind_some]
    by_cases c : hold m r = true
    · rw [decide_eq_true (List.mem_filter.mpr ⟨hr, c⟩), if_pos c]
      rfl
    · rw [decide_eq_false (fun z => c (List.mem_filter.mp z).2), if_neg c]
      rfl) (by rw [flat1, List.length_map]; omega), flat1, list_idx (relL n) (0, 0)]
  rfl
def naT (span_ : Int) (c2 : List (List (Int × Int))) : List Nat → List (Int × (List Nat)) → Option (List (Int × (List Nat))) := fun (b6 : List Nat) (s5 : List (Int × (List Nat))) =>
      (t_on_in b6).bind fun c7 =>
      (t_all_relays span_).bind fun c8 =>
      (tcmp (fun (b10 : Int × Int) => (tmem (e2 eInt eInt) b10 c7).bind fun b11 => some [((if (false != b11) = true then 1 else 0), 1)]) c8).bind fun l12 =>
      (t_reduced_by c2 l12).bind fun c13 =>
      (t_lead c13).bind fun c14 =>
      if c14.isSome = true then (
        (rep [48] span_).bind fun s15 =>
        (t_way_of s15 b6).bind fun c16 =>
        (slen c16).bind fun n17 =>
        (tapp s5 (n17, c16)).bind fun found18 =>
        some found18)
      else (
        some s5)
theorem na_eq (span_ : Int) (some_ : List (List Nat)) : t_next_asking span_ some_ =
  ((t_need_asked span_ some_).bind fun c1 =>
  (t_basis_of span_ some_).bind fun c2 =>
  (t_all_memories span_).bind fun c4 =>
  (fld (naT span_ c2) c4 []).bind fun s19 =>
  (if (!s19.isEmpty) = true then ((tminB (e2 eInt eStr) s19).bind fun l20 => some (some l20.2)) else (some (none : Option (List Nat)))).bind fun c21 =>
  some c21) := rfl
theorem chk_spec : ∀ (ws : List (List Nat)) (i : Int), (∀ w ∈ ws, Inp w ∧ w.length ≤ 200) → fld (fun (b3 : Int × (List Nat)) (s2 : Unit) =>
        (t_is_input b3.2).bind fun c4 =>
        if (!c4) = true then (
          none)
        else (
          some ())) (enumI i ws) () = some ()
  | [], _, _ => rfl
  | w :: ws, i, h => by
    obtain ⟨g1, g2⟩ := h w List.mem_cons_self
    show ((t_is_input w).bind _).bind _ = _
    rw [is_input_spec g1 g2]
    exact chk_spec ws (i + 1) fun x hx => h x (List.mem_cons_of_mem _ hx)
theorem need_asked_spec {n : Nat} (n1 : 1 ≤ n) (n9 : n ≤ 9) {ws : List (List Nat)} (hw : ∀ w ∈ ws, Inp w ∧ w.length ≤ 200) (hl : ws.length ≤ 20) : t_need_asked n ws = some () := by
  unfold t_need_asked
  rw [need_span_spec (by omega) (by omega), Option.bind_some]
  refine (if_neg (by simp; omega)).trans ?_
  rw [chk_spec ws 0 hw]
  rfl
structure Wy (n : Nat) : Prop where
  wy : ∀ m, m ∈ memsN n → memo n (wayL (zer n) m) = m ∧ Inp (wayL (zer n) m) ∧ (wayL (zer n) m).length ≤ 200
  am : ∃ L, t_all_memories n = some L ∧ L.length ≤ 500 ∧ (∀ m ∈ L, m ∈ memsN n) ∧ ∀ m ∈ memsN n, m ∈ L
def wyB (n : Nat) : Bool := ((memsN n).all fun m => memo n (wayL (zer n) m) == m && (wayL (zer n) m).all (fun c => c == 117 || c == 100) && decide ((wayL (zer n) m).length ≤ 200)) && match t_all_memories n with
  | some L => decide (L.length ≤ 500) && L.all (fun m => (memsN n).contains m) && (memsN n).all fun m => L.contains m
  | none => false
theorem wy_of {n : Nat} (h : wyB n = true) : Wy n := by
  unfold wyB at h
  rw [Bool.and_eq_true] at h
  obtain ⟨h1, h2⟩ := h
  refine ⟨fun m hm => ?_, ?_⟩
  · have := List.all_eq_true.mp h1 m hm
    rw [Bool.and_eq_true, Bool.and_eq_true] at this
    refine ⟨eq_of_beq this.1.1, fun c hc => ?_, of_decide_eq_true this.2⟩
    have := List.all_eq_true.mp this.1.2 c hc
    simpa using this
  · split at h2
    · rename_i L e
      rw [Bool.and_eq_true, Bool.and_eq_true] at h2
      refine ⟨L, e, of_decide_eq_true h2.1.1, fun m hm => ?_, fun m hm => ?_⟩
      · have := List.all_eq_true.mp h2.1.2 m hm
        simpa using this
      · have := List.all_eq_true.mp h2.2 m hm
        simpa using this
    · cases h2
theorem na_step {n : Nat} (n1 : 1 ≤ n) (n6 : n ≤ 6) (hw : rk n ≤ 15) (W : Wy n) {F O : List Vec} {ld : List Nat} (E : Ec (rk n) F O ld) {m : List Nat} (hm : m ∈ memsN n) {acc : List (Int × List Nat)} (ha : acc.length ≤ 1000) :
    (Sp (rk n) O (vecM n m) ∧ naT n (encR (rk n) F) m acc = some acc) ∨ (¬ Sp (rk n) O (vecM n m) ∧ naT n (encR (rk n) F) m acc = some (acc ++ [(((wayL (zer n) m).length : Int), wayL (zer n) m)])) := by
  obtain ⟨u, h1, h2, h3⟩ := red_fold hw E (vecM01 n m)
  have mm : Mm n m := mems_mem hm
  have ro : t_reduced_by (encR (rk n) F) (Sx.rowL (rk n) (vecM n m)) = some (Sx.rowL (rk n) u) := by
    rw [redp_eq, h1]
    rfl
  unfold naT
  rw [on_in_spec n1 n6 mm, Option.bind_some, arn n n1 n6, Option.bind_some, mrow_spec n6 m, Option.bind_some, ro, Option.bind_some]
  rcases first_nz u (rk n) with z | ⟨k, k1, k2, k3⟩
  · refine .inl ⟨?_, ?_⟩
    · refine Sp.trans E.fo.1 (.cong (.mul (-1) h2) fun c hc => ?_)
      (try dsimp only)
      rw [z c hc]
      grind
    · rw [lead_none z, Option.bind_some]
      exact if_neg (by decide)
  · refine .inr ⟨fun sp => ?_, ?_⟩
    · have sF : Sp (rk n) F (vecM n m) := sp.trans E.fo.2
      have su : Sp (rk n) F u := .cong (.add h2 sF) fun c _ => by (try dsimp only); grind
      exact k2 (E.zero su h3 k k1)
    · obtain ⟨_, _, w3⟩ := W.wy m hm
      rw [lead_some k1 k2 k3, Option.bind_some]
      refine (if_pos rfl).trans ?_
      have rp : rep [48] (n : Int) = some (zer n) := by rw [rep1_of 48 (by omega) (by omega), Int.toNat_natCast]; rfl
      rw [rp, Option.bind_some, way_of_spec (zer_mm n) mm (by omega), Option.bind_some, len_nil (by omega), Option.bind_some, tapp_of (by omega), Option.bind_some]
theorem na_fold {n : Nat} (n1 : 1 ≤ n) (n6 : n ≤ 6) (hw : rk n ≤ 15) (W : Wy n) {F O : List Vec} {ld : List Nat} (E : Ec (rk n) F O ld) : ∀ (ms : List (List Nat)) (acc : List (Int × List Nat)), (∀ m ∈ ms, m ∈ memsN n) → acc.length + ms.length ≤ 1000 → (∀ x ∈ acc, ∃ m ∈ memsN n, ¬ Sp (rk n) O (vecM n m) ∧ x.2 = wayL (zer n) m) →
    ∃ acc', fld (naT n (encR (rk n) F)) ms acc = some acc' ∧ (∀ x ∈ acc', ∃ m ∈ memsN n, ¬ Sp (rk n) O (vecM n m) ∧ x.2 = wayL (zer n) m) ∧ (acc' = [] → acc = [] ∧ ∀ m ∈ ms, Sp (rk n) O (vecM n m))
  | [], acc, _, _, h => ⟨acc, rfl, h, fun e => ⟨e, fun m hm => (nomatch hm)⟩⟩
  | m :: ms, acc, hm, hl, h => by
    rw [List.length_cons] at hl
    unfold fld
    rcases na_step n1 n6 hw W E (hm m List.mem_cons_self) (acc := acc) (by omega) with ⟨s1, s2⟩ | ⟨s1, s2⟩
    · rw [s2, Option.bind_some]
      obtain ⟨acc', a1, a2, a3⟩ := na_fold n1 n6 hw W E ms acc (fun x hx => hm x (List.mem_cons_of_mem _ hx)) (by omega) h
      refine ⟨acc', a1, a2, fun e => ⟨(a3 e).1, fun x hx => ?_⟩⟩
      rcases List.mem_cons.mp hx with rfl | hx
      · exact s1
      · exact (a3 e).2 x hx
    · rw [s2, Option.bind_some]
      obtain ⟨acc', a1, a2, a3⟩ := na_fold n1 n6 hw W E ms (acc ++ [(((wayL (zer n) m).length : Int), wayL (zer n) m)]) (fun x hx => hm x (List.mem_cons_of_mem _ hx)) (by rw [List.length_append, List.length_singleton]; omega) (fun x hx => by
        rcases List.mem_append.mp hx with hx | hx
        · exact h x hx
        · rw [List.mem_singleton.mp hx]
          exact ⟨m, hm m List.mem_cons_self, s1, rfl⟩)
      refine ⟨acc', a1, a2, fun e => ?_⟩
      have := (a3 e).1
      simp at this
theorem next_spec {n : Nat} (n1 : 1 ≤ n) (n6 : n ≤ 6) (hw : rk n ≤ 15) (W : Wy n) {ws : List (List Nat)} (hi : ∀ w ∈ ws, Inp w ∧ w.length ≤ 200) (hl : ws.length ≤ 20) {F O : List Vec} {ld : List Nat} (hb : t_basis_of n ws = some (encR (rk n) F)) (E : Ec (rk n) F O ld) :
    ((∀ m ∈ memsN n, Sp (rk n) O (vecM n m)) ∧ t_next_asking n ws = some none) ∨ ∃ m ∈ memsN n, ¬ Sp (rk n) O (vecM n m) ∧ t_next_asking n ws = some (some (wayL (zer n) m)) := by
  obtain ⟨L, l1, l2, l3, l4⟩ := W.am
  obtain ⟨acc, a1, a2, a3⟩ := na_fold n1 n6 hw W E L [] l3 (by simp; omega) (fun x hx => (nomatch hx))
  rw [na_eq, need_asked_spec n1 (by omega) hi hl, Option.bind_some, hb, Option.bind_some, l1, Option.bind_some, a1, Option.bind_some]
  by_cases e : acc = []
  · refine .inl ⟨fun m hm => (a3 e).2 m (l4 m hm), ?_⟩
    rw [e]
    rfl
  · obtain ⟨x, x1, x2, _⟩ := tmin_nm e fun x hx c hc => by
      obtain ⟨m, hm, _, e2⟩ := a2 x hx
      rw [e2] at hc
      rcases (W.wy m hm).2.1 c hc with h | h <;> omega
    obtain ⟨m, hm, h1, h2⟩ := a2 x x1
    refine .inr ⟨m, hm, h1, ?_⟩
    have ne : (!acc.isEmpty) = true := by cases acc <;> simp_all
    rw [if_pos ne, x2, Option.bind_some, Option.bind_some, h2]
theorem wy_1 : Wy 1 := wy_of (by decide +kernel)
theorem wy_2 : Wy 2 := wy_of (by decide +kernel)
theorem wy_3 : Wy 3 := wy_of (by decide +kernel)
theorem wy_4 : Wy 4 := wy_of (by decide +kernel)
theorem wy_5 : Wy 5 := wy_of (by decide +kernel)
theorem wyn (n : Nat) (h1 : 1 ≤ n) (h5 : n ≤ 5) : Wy n := by
  match n, h1, h5 with
  | 1, _, _ => exact wy_1
  | 2, _, _ => exact wy_2
  | 3, _, _ => exact wy_3
  | 4, _, _ => exact wy_4
  | 5, _, _ => exact wy_5
theorem full_of {n : Nat} (c5 : cnrB n = true) {O : List Vec} (h : ∀ m ∈ memsN n, Sp (rk n) O (vecM n m)) (f : Vec) : Sp (rk n) O f := by
  unfold cnrB at c5
  rw [Bool.and_eq_true] at c5
  refine (sp_units (rk n) f).trans fun g hg => ?_
  obtain ⟨c, hc, rfl⟩ := List.mem_map.mp hg
  have hc := List.mem_range.mp hc
  have q := List.all_eq_true.mp c5.2 c (List.mem_range.mpr hc)
  dsimp only at q
  generalize (cnrL n).getD c ([], []) = p at q
  rw [Bool.and_eq_true, Bool.and_eq_true] at q
  obtain ⟨⟨q1, q2⟩, q3⟩ := q
  refine .cong (Sp.sub (h _ (by simpa using q1)) (h _ (by simpa using q2))) fun d hd => ?_
  have := List.all_eq_true.mp q3 d (List.mem_range.mpr hd)
  show vecM n _ d - vecM n _ d = if d = c then 1 else 0
  unfold vecM
  by_cases e : d = c
  · rw [if_pos e] at this ⊢
    rw [Bool.and_eq_true, Bool.not_eq_true'] at this
    rw [this.1, this.2, if_pos rfl, if_neg (by decide)]
    grind
  · rw [if_neg e] at this ⊢
    rw [eq_of_beq this]
    grind
theorem full_len {w : Nat} {O : List Vec} (I : Ind w O) (h : ∀ f, Sp w O f) : O.length = w := by
  refine Nat.le_antisymm (ind_le I) ?_
  have iu : Ind w (units w) := fun a ha i hi => by
    rw [units_len] at hi
    have := ha i hi
    rw [units_len, Sx.sm_one (k := i) hi fun j hj hne => by rw [vat_units hj, if_neg (fun z => hne z.symm)]; grind, vat_units hi, if_pos rfl] at this
    grind
  have := steinitz iu (L := O) fun f _ => h f
  rwa [units_len] at this
theorem len_full {w : Nat} {O : List Vec} (I : Ind w O) (e : O.length = w) (f : Vec) : Sp w O f := Classical.byContradiction fun z => by
  have := ind_le (I.more z)
  rw [List.length_append, List.length_singleton] at this
  omega
theorem Bas.le1 {w : Nat} {L L' F F' : List Vec} {v : Vec} (A : Bas w L F) (B : Bas w L' F') (h : ∀ f ∈ L', Sp w (L ++ [v]) f) : F'.length ≤ F.length + 1 := by
  have := steinitz B.ind (L := F ++ [v]) fun f hf => ((B.sub f hf).trans h).trans fun g hg => by
    rcases List.mem_append.mp hg with h | h
    · exact (A.all g h).up
    · exact .base (List.mem_append_right _ h)
  rwa [List.length_append, List.length_singleton] at this
theorem Bas.new {w : Nat} {L F F' : List Vec} {v : Vec} (A : Bas w L F) (B : Bas w (L ++ [v]) F') (h : ¬ Sp w F v) : F'.length = F.length + 1 := by
  refine Nat.le_antisymm (A.le1 B fun f hf => .base hf) ?_
  have := steinitz (A.ind.more h) (L := F') fun f hf => by
    rcases List.mem_append.mp hf with h | h
    · exact ((A.sub f h).trans fun g hg => .base (List.mem_append_left _ hg)).trans B.all
    · rw [List.mem_singleton.mp h]
      exact B.all v (List.mem_append_right _ (List.mem_singleton.mpr rfl))
  rwa [List.length_append, List.length_singleton] at this
theorem Bas.same {w : Nat} {L L' F F' : List Vec} (A : Bas w L F) (B : Bas w L' F') (h : ∀ f, f ∈ L ↔ f ∈ L') : F.length = F'.length :=
  Nat.le_antisymm (A.len B fun f hf => .base ((h f).mp hf)) (B.len A fun f hf => .base ((h f).mpr hf))
end Mi.T
namespace Mi.T
open PySem PySem.Spec PyProof.Rows L2 GxR
def lawB (span3 : Int) (ws : List (List Nat)) : Option Bool :=
  (t_asked_rank span3 ws).bind fun c15 =>
  (imulW span3 (span3 + 1)).bind fun m16 =>
  (some (Int.fdiv m16 2)).bind fun many17 =>
  if (decide ((imin (ws.length : Int) many17) < c15)) = true then (
    some false)
  else (
    (t_asked_rank span3 ws.reverse).bind fun c18 =>
    if (!(c18 == c15)) = true then (
      some false)
    else (
      (lcat ws ws).bind fun l19 =>
      (tcut l19 none (some 20)).bind fun t20 =>
      (t_asked_rank span3 t20).bind fun c21 =>
      if (!(c21 == c15)) = true then (
        some false)
      else (
        (tcmp (fun (b22 : List Nat) => (rep [100] span3).bind fun s23 => (scat s23 b22).bind fun s24 => (t_reduced span3 s24).bind fun c25 => some [c25]) ws).bind fun l26 =>
        (t_asked_rank span3 l26).bind fun c27 =>
        if (!(c27 == c15)) = true then (
          some false)
        else (
          (t_tells_all span3 ws).bind fun c28 =>
          if (!(c28 == (c15 == many17))) = true then (
            some false)
          else (
            (trange1 (ws.length : Int)).bind fun r29 =>
            (fldR (fun (b31 : Int) (s30 : Unit) =>
                (lcat (cutL ws none (some b31)) (cutL ws (some (b31 + 1)) none)).bind fun l32 =>
                (t_asked_rank span3 l32).bind fun c33 =>
                if (!((decide ((c15 - 1) ≤ c33)) && (decide (c33 ≤ c15)))) = true then (
                  some (.ret false))
                else (
                  some (.nxt ()))) r29 ()).bind fun c34 =>
            ctl c34 (fun (s35 : Unit) =>
              (trange1 (20 - (ws.length : Int))).bind fun r36 =>
              (fldR (fun (b38 : Int) (s37 : Int × (List (List Nat))) =>
                  (t_next_asking span3 s37.2).bind fun c39 =>
                  if (!(c39.isNone == (s37.1 == many17))) = true then (
                    some (.ret false))
                  else (
                    optC c39 (
                      some (.nxt (s37.1, s37.2))) (fun more40 =>
                      (tapp s37.2 more40).bind fun words41 =>
                      (some (s37.1 + 1)).bind fun rank42 =>
                      (t_asked_rank span3 words41).bind fun c43 =>
                      if (!(c43 == rank42)) = true then (
                        some (.ret false))
                      else (
                        some (.nxt (rank42, words41)))))) r36 (c15, ws)).bind fun c44 =>
              ctl c44 (fun (s45 : Int × (List (List Nat))) =>
                some true) (fun r => some r)) (fun r => some r))))))
theorem law_eq (script_ : List Int) : t_law script_ = (
  (some (script_, 0, 5582, 0)).bind fun row1 =>
  (t__law_taken row1 5).bind fun w2 =>
  (some (1 + w2.1)).bind fun span3 =>
  (t__law_taken w2.2 7).bind fun w4 =>
  (trange1 w4.1).bind fun r5 =>
  (tcmpS (fun (b10 : Int) (s11 : (List Int) × Int × Int × Int) => (t__law_steps s11).bind fun w12 => (scut w12.1 none (some 15)).bind fun s13 => some ([s13], w12.2)) r5 w4.2).bind fun l14 =>
  lawB span3 l14.1) := rfl
theorem ctl_nxq {ρ σ α : Type} {x : σ} {f : σ → Option α} {g : ρ → Option α} : ctl (.nxt x) f g = f x := rfl
theorem asked_of {n : Nat} (n1 : 1 ≤ n) (n9 : n ≤ 9) {ws : List (List Nat)} {F : List Vec} (hi : ∀ w ∈ ws, Inp w ∧ w.length ≤ 200) (hl : ws.length ≤ 20) (hb : t_basis_of n ws = some (encR (rk n) F)) : t_asked_rank n ws = some ((F.length : Nat) : Int) := by
  unfold t_asked_rank
  rw [need_asked_spec n1 n9 hi hl, Option.bind_some, hb, Option.bind_some]
  unfold encR
  rw [List.length_map]
theorem rk_5 : ((List.range 6).all fun n => decide (rk n ≤ 15) && decide (Int.fdiv ((n : Int) * ((n : Int) + 1)) 2 = ((rk n : Nat) : Int)) && decide (behL (zer n) (List.replicate n 100) = zer n)) = true := by decide +kernel
theorem rk5n {n : Nat} (n5 : n ≤ 5) : rk n ≤ 15 ∧ Int.fdiv ((n : Int) * ((n : Int) + 1)) 2 = ((rk n : Nat) : Int) ∧ behL (zer n) (List.replicate n 100) = zer n := by
  have := List.all_eq_true.mp rk_5 n (List.mem_range.mpr (by omega))
  rw [Bool.and_eq_true, Bool.and_eq_true] at this
  exact ⟨of_decide_eq_true this.1.1, of_decide_eq_true this.1.2, of_decide_eq_true this.2⟩
structure RdH (n : Nat) : Prop where
  ok : (SS n).all (okR n) = true
  inp : ((SS n).all fun r => (wordR r).all fun c => c == 117 || c == 100) = true
theorem rdn (n : Nat) (h1 : 1 ≤ n) (h5 : n ≤ 5) : RdH n := by
  match n, h1, h5 with
  | 1, _, _ => exact ⟨ok_1, by decide +kernel⟩
  | 2, _, _ => exact ⟨ok_2, by decide +kernel⟩
  | 3, _, _ => exact ⟨ok_3, by decide +kernel⟩
  | 4, _, _ => exact ⟨ok_4, by decide +kernel⟩
  | 5, _, _ => exact ⟨ok_5, by decide +kernel⟩
def rdW (n : Nat) (s : List Nat) : List Nat := (t_reduced n (List.replicate n 100 ++ s)).getD []
theorem rd_spec {n : Nat} (n1 : 1 ≤ n) (n5 : n ≤ 5) {s : List Nat} (hs : Inp s) (ls : s.length ≤ 100) : t_reduced n (List.replicate n 100 ++ s) = some (rdW n s) ∧ Inp (rdW n s) ∧ (rdW n s).length ≤ 200 ∧ memo n (rdW n s) = memo n s := by
  have R := rdn n n1 n5
  have hi : Inp (List.replicate n 100 ++ s) := fun c hc => by
    rcases List.mem_append.mp hc with h | h
    · exact .inr (List.mem_replicate.mp h).2
    · exact hs c h
  have hl : (List.replicate n 100 ++ s).length = n + s.length := by rw [List.length_append, List.length_replicate]
  obtain ⟨r, r1, r2, _, r4, r5⟩ := reduce_state R.ok hi
  have e : t_reduced n (List.replicate n 100 ++ s) = some (wordR r) := by
    unfold t_reduced
    rw [need_span_spec (by omega) (by omega), Option.bind_some, need_input_spec hi (by omega), Option.bind_some, r2, Option.bind_some]
  have e2 : rdW n s = wordR r := by unfold rdW; rw [e]; rfl
  rw [e2]
  refine ⟨e, fun c hc => ?_, by omega, ?_⟩
  · have := List.all_eq_true.mp (List.all_eq_true.mp R.inp r r1) c hc
    simpa using this
  · unfold memo
    rw [r5 (zer n) (mems_all (zer_mm n).1 (zer_mm n).2), ← beh_append, (rk5n n5).2.2]
theorem lawB_true {n : Nat} (n1 : 1 ≤ n) (n5 : n ≤ 5) {ws : List (List Nat)} (hi : ∀ w ∈ ws, Inp w ∧ w.length ≤ 15) (hl : ws.length ≤ 6) : lawB n ws = some true := by
  obtain ⟨r15, rf, _⟩ := rk5n n5
  have hi2 : ∀ w ∈ ws, Inp w ∧ w.length ≤ 200 := fun w hw => ⟨(hi w hw).1, by have := (hi w hw).2; omega⟩
  obtain ⟨F, O, ld, hb, E, B⟩ := basis_spec n1 (by omega) r15 ws
  have ol := E.lens.1
  have ar : ∀ ws' : List (List Nat), (∀ w ∈ ws', Inp w ∧ w.length ≤ 200) → ws'.length ≤ 20 → ∃ O', Bas (rk n) (vr n ws') O' ∧ t_asked_rank n ws' = some ((O'.length : Nat) : Int) := fun ws' h1 h2 => by
    obtain ⟨F', O', ld', hb', E', B'⟩ := basis_spec n1 (by omega) r15 ws'
    exact ⟨O', B', by rw [E'.lens.1]; exact asked_of n1 (by omega) h1 h2 hb'⟩
  have same : ∀ ws' : List (List Nat), (∀ w ∈ ws', Inp w ∧ w.length ≤ 200) → ws'.length ≤ 20 → (∀ f, f ∈ vr n ws ↔ f ∈ vr n ws') → t_asked_rank n ws' = some ((O.length : Nat) : Int) := fun ws' h1 h2 h3 => by
    obtain ⟨O', B', e⟩ := ar ws' h1 h2
    rw [e, B.same B' h3]
  have vl : (vr n ws).length = ws.length := List.length_map ..
  have o1 : O.length ≤ ws.length := by
    have := steinitz B.ind B.sub
    omega
  have o2 := ind_le B.ind
  unfold lawB
  have a0 := asked_of n1 (by omega) hi2 (by omega) hb
  rw [← ol] at a0
  refine (bind_of a0).trans ?_
  have mi : imulW (n : Int) ((n : Int) + 1) = some ((n : Int) * ((n : Int) + 1)) := Sx.imulW_sz (Nat.lt_of_lt_of_le (m := 2 ^ 4) (by omega) (Nat.pow_le_pow_right (by decide) (by decide))) (Nat.lt_of_lt_of_le (m := 2 ^ 4) (by omega) (Nat.pow_le_pow_right (by decide) (by decide)))
  refine (bind_of mi).trans ?_
  rw [Option.bind_some, rf]
  refine (if_neg ?_).trans ?_
  · rw [decide_eq_true_eq]
    unfold imin
    split <;> omega
  refine (bind_of (same ws.reverse (fun w hw => hi2 w (List.mem_reverse.mp hw)) (by rw [List.length_reverse]; omega) fun f => by unfold vr; rw [List.map_reverse, List.mem_reverse])).trans ?_
  refine (if_neg (by simp)).trans ?_
  refine (bind_of (lcat_of (a := ws) (b := ws) (by omega))).trans ?_
  have tc : tcut (ws ++ ws) none (some 20) = some (ws ++ ws) := by
    unfold tcut
    rw [show (20 : Int) = ((20 : Nat) : Int) from rfl, cut_to', List.take_of_length_le (by rw [List.length_append]; omega)]
  refine (bind_of tc).trans ?_
  refine (bind_of (same (ws ++ ws) (fun w hw => by rcases List.mem_append.mp hw with h | h <;> exact hi2 w h) (by rw [List.length_append]; omega) fun f => by unfold vr; rw [List.map_append, List.mem_append, or_self])).trans ?_
  refine (if_neg (by simp)).trans ?_
  have rl : tcmp (fun (b22 : List Nat) => (rep [100] (n : Int)).bind fun s23 => (scat s23 b22).bind fun s24 => (t_reduced (n : Int) s24).bind fun c25 => some [c25]) ws = some (ws.map (rdW n)) := tcmp_mapL (fun s hs => by
    have hs2 := hi s hs
    rw [rep1_of 100 (by omega) (by omega), Option.bind_some, Int.toNat_natCast, scat_of (by rw [List.length_replicate]; omega), Option.bind_some, (rd_spec n1 n5 hs2.1 (by omega)).1, Option.bind_some]) (by omega)
  refine (bind_of rl).trans ?_
  have vm : vr n (ws.map (rdW n)) = vr n ws := by
    unfold vr
    rw [List.map_map]
    refine List.map_congr_left fun s hs => ?_
    show vecOf n (rdW n s) = vecOf n s
    rw [vecOf_M, vecOf_M, (rd_spec n1 n5 (hi s hs).1 (by have := (hi s hs).2; omega)).2.2.2]
  refine (bind_of (same (ws.map (rdW n)) (fun w hw => by
    obtain ⟨s, hs, rfl⟩ := List.mem_map.mp hw
    obtain ⟨_, q1, q2, _⟩ := rd_spec n1 n5 (hi s hs).1 (by have := (hi s hs).2; omega)
    exact ⟨q1, q2⟩) (by rw [List.length_map]; omega) fun f => by rw [vm])).trans ?_
  refine (if_neg (by simp)).trans ?_
  have ta : t_tells_all n ws = some (((O.length : Nat) : Int) == ((rk n : Nat) : Int)) := by
    unfold t_tells_all
    rw [need_asked_spec n1 (by omega) hi2 (by omega), Option.bind_some, hb, Option.bind_some, arn n n1 (by omega), Option.bind_some]
    unfold encR
    rw [List.length_map, ol]
    rfl
  refine (bind_of ta).trans ?_
  refine (if_neg (by simp)).trans ?_
  rw [range1_of (by omega) (by omega), Option.bind_some, Int.toNat_natCast]
  refine (bind_of (fldR_pass fun b hb2 => ?_)).trans ?_
  · obtain ⟨j, rfl, hj⟩ := mem_irange0 hb2
    have e : ws = ws.take j ++ ws[j] :: ws.drop (j + 1) := by rw [← List.drop_eq_getElem_cons hj, List.take_append_drop]
    have lt : (ws.take j ++ ws.drop (j + 1)).length ≤ 6 := by rw [List.length_append, List.length_take, List.length_drop]; omega
    have sub : ∀ w ∈ ws.take j ++ ws.drop (j + 1), w ∈ ws := fun w hw => by
      rcases List.mem_append.mp hw with h | h
      · exact List.mem_of_mem_take h
      · exact List.mem_of_mem_drop h
    obtain ⟨O', B', e'⟩ := ar (ws.take j ++ ws.drop (j + 1)) (fun w hw => hi2 w (sub w hw)) (by omega)
    have c1 : O'.length ≤ O.length := B'.len B fun f hf => by
      obtain ⟨w, hw, rfl⟩ := List.mem_map.mp hf
      exact .base (List.mem_map.mpr ⟨w, sub w hw, rfl⟩)
    have c2 : O.length ≤ O'.length + 1 := B'.le1 (v := vecOf n ws[j]) B fun f hf => by
      obtain ⟨w, hw, rfl⟩ := List.mem_map.mp hf
      rw [e] at hw
      rcases List.mem_append.mp hw with h | h
      · exact .base (List.mem_append_left _ (List.mem_map.mpr ⟨w, List.mem_append_left _ h, rfl⟩))
      · rcases List.mem_cons.mp h with h | h
        · rw [h]; exact .base (List.mem_append_right _ (List.mem_singleton.mpr rfl))
        · exact .base (List.mem_append_left _ (List.mem_map.mpr ⟨w, List.mem_append_right _ h, rfl⟩))
    rw [cut_to', show (j : Int) + 1 = ((j + 1 : Nat) : Int) by omega, cut_from, lcat_of (by rw [← List.length_append]; omega), Option.bind_some, e', Option.bind_some]
    exact if_neg (by simp; omega)
  rw [ctl_nxq]
  rw [range1_of (by omega) (by omega), Option.bind_some, show (20 - (ws.length : Int)).toNat = 20 - ws.length by omega]
  have W := wyn n n1 n5
  obtain ⟨s', g1, _⟩ := fldR_range (ρ := Bool) (t := fun (b38 : Int) (s37 : Int × (List (List Nat))) =>
                  (t_next_asking (n : Int) s37.2).bind fun c39 =>
                  if (!(c39.isNone == (s37.1 == ((rk n : Nat) : Int)))) = true then (
                    some (.ret false))
                  else (
                    optC c39 (
                      some (.nxt (s37.1, s37.2))) (fun more40 =>
                      (tapp s37.2 more40).bind fun words41 =>
                      (some (s37.1 + 1)).bind fun rank42 =>
                      (t_asked_rank (n : Int) words41).bind fun c43 =>
                      if (!(c43 == rank42)) = true then (
                        some (.ret false))
                      else (
                        some (.nxt (rank42, words41))))))
    (fun k s => ∃ ws' F' O' ld', s = (((O'.length : Nat) : Int), ws') ∧ t_basis_of n ws' = some (encR (rk n) F') ∧ Ec (rk n) F' O' ld' ∧ Bas (rk n) (vr n ws') O' ∧ (∀ w ∈ ws', Inp w ∧ w.length ≤ 200) ∧ ws'.length ≤ ws.length + k) (20 - ws.length) (s := (((O.length : Nat) : Int), ws)) ⟨ws, F, O, ld, rfl, hb, E, B, hi2, by omega⟩ (fun k hk s hs => by
    obtain ⟨ws', F', O', ld', rfl, hb', E', B', i', l'⟩ := hs
    rcases next_spec n1 (by omega) r15 W i' (by omega) hb' E' with ⟨al, ne⟩ | ⟨m, hm, nsp, ne⟩
    · refine ⟨_, ?_, ws', F', O', ld', rfl, hb', E', B', i', by omega⟩
      have full := full_len E'.ind (full_of (cnrn n n1 n5) al)
      refine (bind_of ne).trans ?_
      refine (if_neg (by simp [full])).trans ?_
      rfl
    · have ne2 : O'.length ≠ rk n := fun e => nsp (len_full E'.ind e _)
      obtain ⟨w1, w2, w3⟩ := W.wy m hm
      have i2 : ∀ w ∈ ws' ++ [wayL (zer n) m], Inp w ∧ w.length ≤ 200 := fun w hw => by
        rcases List.mem_append.mp hw with h | h
        · exact i' w h
        · rw [List.mem_singleton.mp h]; exact ⟨w2, w3⟩
      have l2 : (ws' ++ [wayL (zer n) m]).length = ws'.length + 1 := by rw [List.length_append]; rfl
      obtain ⟨F2, O2, ld2, hb2, E2, B2⟩ := basis_spec n1 (by omega) r15 (ws' ++ [wayL (zer n) m])
      have ev : vr n (ws' ++ [wayL (zer n) m]) = vr n ws' ++ [vecM n m] := by
        unfold vr
        rw [List.map_append]
        show _ ++ [vecOf n (wayL (zer n) m)] = _
        rw [vecOf_M, w1]
      have e2 : O2.length = O'.length + 1 := B'.new (by rw [← ev]; exact B2) nsp
      refine ⟨(((O2.length : Nat) : Int), ws' ++ [wayL (zer n) m]), ?_, _, F2, O2, ld2, rfl, hb2, E2, B2, i2, by omega⟩
      have a2 := asked_of n1 (by omega) i2 (by omega) hb2
      rw [← E2.lens.1] at a2
      refine (bind_of ne).trans ?_
      refine (if_neg (by
        have : (((O'.length : Nat) : Int) == ((rk n : Nat) : Int)) = false := beq_false_of_ne (by omega)
        rw [this]
        simp)).trans ?_
      refine (bind_of (tapp_of (l := ws') (x := wayL (zer n) m) (by omega))).trans ?_
      rw [Option.bind_some]
      refine (bind_of a2).trans ?_
      refine (if_neg (by
        have : (((O2.length : Nat) : Int) == ((O'.length : Nat) : Int) + 1) = true := by
          rw [e2]
          simp
        rw [this]
        decide)).trans ?_
      rw [e2]
      rfl)
  refine (bind_of g1).trans ?_
  rw [ctl_nxq]
theorem t_law_true (ns : List Int) : t_law ns = some true := by
  rw [law_eq, Option.bind_some]
  obtain ⟨w2, e2, a2, b2, R2⟩ := taken_spec (row0 ns 5582) (m := 5) (by decide) (by decide)
  refine (bind_of e2).trans ?_
  obtain ⟨n, hn⟩ : ∃ n : Nat, 1 + w2.1 = (n : Int) := ⟨(1 + w2.1).toNat, by omega⟩
  rw [Option.bind_some, hn]
  obtain ⟨w4, e4, a4, b4, R4⟩ := taken_spec R2 (m := 7) (by decide) (by decide)
  refine (bind_of e4).trans ?_
  rw [range1_of (by omega) (by omega), Option.bind_some]
  obtain ⟨ys, r', h1, _, h3, h4⟩ := tcmpS_inv (t := fun (b10 : Int) (s11 : (List Int) × Int × Int × Int) => (t__law_steps s11).bind fun w12 => (scut w12.1 none (some 15)).bind fun s13 => some ([s13], w12.2)) ROk (fun s => Inp s ∧ s.length ≤ 15) (fun b s hs => by
    obtain ⟨st, r3, p1, p2, p3, p4⟩ := steps_spec hs
    have c0 : scut st none (some 15) = some (st.take 15) := scut_to st 15 (by omega)
    refine ⟨st.take 15, r3, ?_, p4, fun c hc => p3 c (List.mem_of_mem_take hc), by rw [List.length_take]; exact Nat.min_le_left _ _⟩
    rw [p1, Option.bind_some]
    show ((scut st none (some 15)).bind _) = _
    rw [c0, Option.bind_some]) (irange 0 w4.1.toNat) w4.2 R4 (by rw [irange_len]; omega)
  refine (bind_of h1).trans ?_
  rw [irange_len] at h3
  exact lawB_true (by omega) (by omega) h4 (by show ys.length ≤ 6; omega)
end Mi.T
namespace Mi
theorem law_true : ∀ ns : List Int, ns.length ≤ 63 → (∀ z ∈ ns, PySem.Builtin.Int.intBits z ≤ 1048576) → φ_law [.scr ns] = some (.bl true) := fun ns _ _ => T.t_law_ok (T.t_law_true ns)
end Mi
namespace Mi.T
end Mi.T
namespace Mi
open PySem PySem.Spec PyProof.Rows L2 GxR
structure Fx (P : Program) (w : World) (K : Frag) (mg : Str → Option Value) (base : Heap) (C : Cfg) : Prop where
  hK : C.K.f = K
  hP : C.K.P = P
  hw : C.K.w = w
  g_all : mg "all" = none
  g_bool : mg "bool" = none
  g_enumerate : mg "enumerate" = none
  g_int : mg "int" = none
  g_isinstance : mg "isinstance" = none
  g_len : mg "len" = none
  g_list : mg "list" = none
  g_min : mg "min" = none
  g_range : mg "range" = none
  g_str : mg "str" = none
  g_tuple : mg "tuple" = none
  g_zip : mg "zip" = none
  b_gcd : mg "gcd" = some (.builtin "math.gcd")
  i_MOST_INPUTS : ∃ t, mg "MOST_INPUTS" = some (.int 20 t)
  i_MOST_SPAN : ∃ t, mg "MOST_SPAN" = some (.int 9 t)
  i_MOST_STEPS : ∃ t, mg "MOST_STEPS" = some (.int 200 t)
  m__law_taken : mg "_law_taken" = some (.ref (He.ga K "_law_taken"))
  k__law_taken : PySem.W.keepIn K (.ref (He.ga K "_law_taken")) = true
  f__law_taken : ∃ fd, FunD K "_law_taken" "_law_taken" (defArgs (top 45)) (defBody (top 45)) (defScope (top 45)) [] [] (He.ga K "_law_taken") fd
  m_is_in : mg "is_in" = some (.ref (He.ga K "is_in"))
  k_is_in : PySem.W.keepIn K (.ref (He.ga K "is_in")) = true
  f_is_in : ∃ fd, FunD K "is_in" "is_in" (defArgs (top 9)) (defBody (top 9)) (defScope (top 9)) [] [] (He.ga K "is_in") fd
  m_need_span : mg "need_span" = some (.ref (He.ga K "need_span"))
  k_need_span : PySem.W.keepIn K (.ref (He.ga K "need_span")) = true
  f_need_span : ∃ fd, FunD K "need_span" "need_span" (defArgs (top 12)) (defBody (top 12)) (defScope (top 12)) [] [] (He.ga K "need_span") fd
  m_is_input : mg "is_input" = some (.ref (He.ga K "is_input"))
  k_is_input : PySem.W.keepIn K (.ref (He.ga K "is_input")) = true
  f_is_input : ∃ fd, FunD K "is_input" "is_input" (defArgs (top 10)) (defBody (top 10)) (defScope (top 10)) [] [] (He.ga K "is_input") fd
  tb_is_input : TabB base mg (He.codeOf K ("is_input", none)) (He.tabOf K (He.codeOf K ("is_input", none)))
  tm_is_input : C.gt (He.tabOf K (He.codeOf K ("is_input", none)))
  tc_is_input : ∀ (oc : Value) (od : Option Addr) (osl : Array (Option Value)) (fd : FuncData), K.lookup (He.ga K "is_input") = some ⟨oc, od, .func fd, osl⟩ → fd.code = .ref (He.codeOf K ("is_input", none))
  m_need_asked : mg "need_asked" = some (.ref (He.ga K "need_asked"))
  k_need_asked : PySem.W.keepIn K (.ref (He.ga K "need_asked")) = true
  f_need_asked : ∃ fd, FunD K "need_asked" "need_asked" (defArgs (top 37)) (defBody (top 37)) (defScope (top 37)) [] [] (He.ga K "need_asked") fd
  m_lead : mg "lead" = some (.ref (He.ga K "lead"))
  k_lead : PySem.W.keepIn K (.ref (He.ga K "lead")) = true
  f_lead : ∃ fd, FunD K "lead" "lead" (defArgs (top 38)) (defBody (top 38)) (defScope (top 38)) [] [] (He.ga K "lead") fd
  m_ratio : mg "ratio" = some (.ref (He.ga K "ratio"))
  k_ratio : PySem.W.keepIn K (.ref (He.ga K "ratio")) = true
  f_ratio : ∃ fd, FunD K "ratio" "ratio" (defArgs (top 22)) (defBody (top 22)) (defScope (top 22)) [] [] (He.ga K "ratio") fd
  m_over : mg "over" = some (.ref (He.ga K "over"))
  k_over : PySem.W.keepIn K (.ref (He.ga K "over")) = true
  f_over : ∃ fd, FunD K "over" "over" (defArgs (top 25)) (defBody (top 25)) (defScope (top 25)) [] [] (He.ga K "over") fd
  m_minus : mg "minus" = some (.ref (He.ga K "minus"))
  k_minus : PySem.W.keepIn K (.ref (He.ga K "minus")) = true
  f_minus : ∃ fd, FunD K "minus" "minus" (defArgs (top 23)) (defBody (top 23)) (defScope (top 23)) [] [] (He.ga K "minus") fd
  m_by : mg "by" = some (.ref (He.ga K "by"))
  k_by : PySem.W.keepIn K (.ref (He.ga K "by")) = true
  f_by : ∃ fd, FunD K "by" "by" (defArgs (top 24)) (defBody (top 24)) (defScope (top 24)) [] [] (He.ga K "by") fd
  m_step : mg "step" = some (.ref (He.ga K "step"))
  k_step : PySem.W.keepIn K (.ref (He.ga K "step")) = true
  f_step : ∃ fd, FunD K "step" "step" (defArgs (top 13)) (defBody (top 13)) (defScope (top 13)) [] [] (He.ga K "step") fd
  m_behind : mg "behind" = some (.ref (He.ga K "behind"))
  k_behind : PySem.W.keepIn K (.ref (He.ga K "behind")) = true
  f_behind : ∃ fd, FunD K "behind" "behind" (defArgs (top 14)) (defBody (top 14)) (defScope (top 14)) [] [] (He.ga K "behind") fd
  m_place : mg "place" = some (.ref (He.ga K "place"))
  k_place : PySem.W.keepIn K (.ref (He.ga K "place")) = true
  f_place : ∃ fd, FunD K "place" "place" (defArgs (top 28)) (defBody (top 28)) (defScope (top 28)) [] [] (He.ga K "place") fd
  m_holds : mg "holds" = some (.ref (He.ga K "holds"))
  k_holds : PySem.W.keepIn K (.ref (He.ga K "holds")) = true
  f_holds : ∃ fd, FunD K "holds" "holds" (defArgs (top 29)) (defBody (top 29)) (defScope (top 29)) [] [] (He.ga K "holds") fd
  m_all_relays : mg "all_relays" = some (.ref (He.ga K "all_relays"))
  k_all_relays : PySem.W.keepIn K (.ref (He.ga K "all_relays")) = true
  f_all_relays : ∃ fd, FunD K "all_relays" "all_relays" (defArgs (top 27)) (defBody (top 27)) (defScope (top 27)) [] [] (He.ga K "all_relays") fd
  m_row_of : mg "row_of" = some (.ref (He.ga K "row_of"))
  k_row_of : PySem.W.keepIn K (.ref (He.ga K "row_of")) = true
  f_row_of : ∃ fd, FunD K "row_of" "row_of" (defArgs (top 32)) (defBody (top 32)) (defScope (top 32)) [] [] (He.ga K "row_of") fd
  m_basis_of : mg "basis_of" = some (.ref (He.ga K "basis_of"))
  k_basis_of : PySem.W.keepIn K (.ref (He.ga K "basis_of")) = true
  f_basis_of : ∃ fd, FunD K "basis_of" "basis_of" (defArgs (top 40)) (defBody (top 40)) (defScope (top 40)) [] [] (He.ga K "basis_of") fd
  m_asked_rank : mg "asked_rank" = some (.ref (He.ga K "asked_rank"))
  k_asked_rank : PySem.W.keepIn K (.ref (He.ga K "asked_rank")) = true
  f_asked_rank : ∃ fd, FunD K "asked_rank" "asked_rank" (defArgs (top 41)) (defBody (top 41)) (defScope (top 41)) [] [] (He.ga K "asked_rank") fd
  m_tells_all : mg "tells_all" = some (.ref (He.ga K "tells_all"))
  k_tells_all : PySem.W.keepIn K (.ref (He.ga K "tells_all")) = true
  f_tells_all : ∃ fd, FunD K "tells_all" "tells_all" (defArgs (top 42)) (defBody (top 42)) (defScope (top 42)) [] [] (He.ga K "tells_all") fd
  m_all_memories : mg "all_memories" = some (.ref (He.ga K "all_memories"))
  k_all_memories : PySem.W.keepIn K (.ref (He.ga K "all_memories")) = true
  f_all_memories : ∃ fd, FunD K "all_memories" "all_memories" (defArgs (top 15)) (defBody (top 15)) (defScope (top 15)) [] [] (He.ga K "all_memories") fd
  m_on_in : mg "on_in" = some (.ref (He.ga K "on_in"))
  k_on_in : PySem.W.keepIn K (.ref (He.ga K "on_in")) = true
  f_on_in : ∃ fd, FunD K "on_in" "on_in" (defArgs (top 30)) (defBody (top 30)) (defScope (top 30)) [] [] (He.ga K "on_in") fd
  m_reduced_by : mg "reduced_by" = some (.ref (He.ga K "reduced_by"))
  k_reduced_by : PySem.W.keepIn K (.ref (He.ga K "reduced_by")) = true
  f_reduced_by : ∃ fd, FunD K "reduced_by" "reduced_by" (defArgs (top 39)) (defBody (top 39)) (defScope (top 39)) [] [] (He.ga K "reduced_by") fd
  m_way_from_all : mg "way_from_all" = some (.ref (He.ga K "way_from_all"))
  k_way_from_all : PySem.W.keepIn K (.ref (He.ga K "way_from_all")) = true
  f_way_from_all : ∃ fd, FunD K "way_from_all" "way_from_all" (defArgs (top 34)) (defBody (top 34)) (defScope (top 34)) [] [] (He.ga K "way_from_all") fd
  m_way_of : mg "way_of" = some (.ref (He.ga K "way_of"))
  k_way_of : PySem.W.keepIn K (.ref (He.ga K "way_of")) = true
  f_way_of : ∃ fd, FunD K "way_of" "way_of" (defArgs (top 35)) (defBody (top 35)) (defScope (top 35)) [] [] (He.ga K "way_of") fd
  m_next_asking : mg "next_asking" = some (.ref (He.ga K "next_asking"))
  k_next_asking : PySem.W.keepIn K (.ref (He.ga K "next_asking")) = true
  f_next_asking : ∃ fd, FunD K "next_asking" "next_asking" (defArgs (top 43)) (defBody (top 43)) (defScope (top 43)) [] [] (He.ga K "next_asking") fd
  m__law_pick : mg "_law_pick" = some (.ref (He.ga K "_law_pick"))
  k__law_pick : PySem.W.keepIn K (.ref (He.ga K "_law_pick")) = true
  f__law_pick : ∃ fd, FunD K "_law_pick" "_law_pick" (defArgs (top 46)) (defBody (top 46)) (defScope (top 46)) [] [] (He.ga K "_law_pick") fd
  m__law_steps : mg "_law_steps" = some (.ref (He.ga K "_law_steps"))
  k__law_steps : PySem.W.keepIn K (.ref (He.ga K "_law_steps")) = true
  f__law_steps : ∃ fd, FunD K "_law_steps" "_law_steps" (defArgs (top 52)) (defBody (top 52)) (defScope (top 52)) [] [] (He.ga K "_law_steps") fd
  m_need_input : mg "need_input" = some (.ref (He.ga K "need_input"))
  k_need_input : PySem.W.keepIn K (.ref (He.ga K "need_input")) = true
  f_need_input : ∃ fd, FunD K "need_input" "need_input" (defArgs (top 11)) (defBody (top 11)) (defScope (top 11)) [] [] (He.ga K "need_input") fd
  m_settled : mg "settled" = some (.ref (He.ga K "settled"))
  k_settled : PySem.W.keepIn K (.ref (He.ga K "settled")) = true
  f_settled : ∃ fd, FunD K "settled" "settled" (defArgs (top 18)) (defBody (top 18)) (defScope (top 18)) [] [] (He.ga K "settled") fd
  m_reduce : mg "reduce" = some (.ref (He.ga K "reduce"))
  k_reduce : PySem.W.keepIn K (.ref (He.ga K "reduce")) = true
  f_reduce : ∃ fd, FunD K "reduce" "reduce" (defArgs (top 19)) (defBody (top 19)) (defScope (top 19)) [] [] (He.ga K "reduce") fd
  m_reduced : mg "reduced" = some (.ref (He.ga K "reduced"))
  k_reduced : PySem.W.keepIn K (.ref (He.ga K "reduced")) = true
  f_reduced : ∃ fd, FunD K "reduced" "reduced" (defArgs (top 20)) (defBody (top 20)) (defScope (top 20)) [] [] (He.ga K "reduced") fd
  m_law : mg "law" = some (.ref (He.ga K "law"))
  k_law : PySem.W.keepIn K (.ref (He.ga K "law")) = true
  f_law : ∃ fd, FunD K "law" "law" (defArgs (top 53)) (defBody (top 53)) (defScope (top 53)) [] [] (He.ga K "law") fd
abbrev st__law_taken : Stmt := top 45
def N__law_taken : List Str := ["_law_row", "_law_many", "_law_found", "_law_cell"]
theorem sc__law_taken : FnScope N__law_taken ["_law_row", "_law_many"] (defScope st__law_taken) := ⟨rfl, rfl, rfl, by decide +kernel, rfl, by decide +kernel, by decide +kernel⟩
theorem d__law_taken {P : Program} {w : World} {K : Frag} {mg : Str → Option Value} {base : Heap} {C : Cfg} (Z : Fx P w K mg base C)   {cdv : Value} {A : Around} {outer : List Env} {s0 : Shared} {H : Hp} {E : XK} (hr : Room 1 (A.deeper (envOfC "_law_taken" (defScope st__law_taken) s0.heap.objs.size (He.ga K "_law_taken") (cdv)))) :
    PSs (cxOf CX0 P w K mg base N__law_taken "_law_taken" (defScope st__law_taken) (He.ga K "_law_taken") (cdv) A outer s0 H E).nox (defBody st__law_taken) (tS C s__law_taken) :=
  (css_cons (cs_if (ct_cmp (op_gtG hr.units) (gtG_ok Z.hK) cmpG_two cmpG_boo (ce_ix (ix_A (hu1 hr)) (ixA_ok Z.hK) ixA_two (ce_var (pv 0)) ce_int (fun _ _ => rfl)) ce_int (by rfl)) (css_cons (cs_name (fun q => ps_set (i := 2) sc__law_taken.nd rfl (by first | exact Or.inl rfl | exact Or.inr rfl) q) (ce_bin op_modN modF_ok modF_two (ce_callTy call_int1 intF_ok (by rfl) Z.g_int (by decide +kernel) (ca_cons (ce_ix (ix_A (hu1 hr)) (ixA_ok Z.hK) ixA_two (ce_var (pv 0)) ce_int (fun _ _ => rfl)) ca_nil)) (ce_var (pv 1))))
      (css_cons (cs_subA (fun q qi => ps_asg q (pg_sub (pv 0) qi (set_A (hu1 hr)))) (ce_bin op_fdivZ fdivZF_ok fdivZF_two (ce_ix (ix_A (hu1 hr)) (ixA_ok Z.hK) ixA_two (ce_var (pv 0)) ce_int (fun _ _ => rfl)) (ce_var (pv 1))) ce_int)
      (css_one (cs_ret (ce_var (pv 2)))))) css_nil)
    (css_cons (cs_subA (fun q qi => ps_asg q (pg_sub (pv 0) qi (set_A (hu1 hr)))) (ce_bin op_addA (addF_ok Z.hK) addF_two (ce_ix (ix_A (hu1 hr)) (ixA_ok Z.hK) ixA_two (ce_var (pv 0)) ce_int (fun _ _ => rfl)) ce_int) ce_int)
    (css_cons (cs_if (ct_cmp (op_gtG hr.units) (gtG_ok Z.hK) cmpG_two cmpG_boo (ce_ix (ix_A (hu1 hr)) (ixA_ok Z.hK) ixA_two (ce_var (pv 0)) ce_int (fun _ _ => rfl)) (ce_callB call_lenA (lenA_ok Z.hK) (by rfl) Z.g_len (by decide +kernel) (ca_cons (ce_ix (ix_A (hu1 hr)) (ixA_ok Z.hK) ixA_two (ce_var (pv 0)) ce_int (fun _ _ => rfl)) ca_nil)) (by rfl)) (css_cons (cs_subA (fun q qi => ps_asg q (pg_sub (pv 0) qi (set_A (hu1 hr)))) (ce_bin op_modN modF_ok modF_two (ce_callTy call_int1 intF_ok (by rfl) Z.g_int (by decide +kernel) (ca_cons (ce_bin op_addA (addF_ok Z.hK) addF_two (ce_bin op_mulWA mulWF_ok mulWF_two (ce_ix (ix_A (hu1 hr)) (ixA_ok Z.hK) ixA_two (ce_var (pv 0)) ce_int (fun _ _ => rfl)) ce_int) ce_int) ca_nil)) ce_int) ce_int)
      (css_one (cs_ret (ce_bin op_modN modF_ok modF_two (ce_callTy call_int1 intF_ok (by rfl) Z.g_int (by decide +kernel) (ca_cons (ce_bin op_fdivZ fdivZF_ok fdivZF_two (ce_ix (ix_A (hu1 hr)) (ixA_ok Z.hK) ixA_two (ce_var (pv 0)) ce_int (fun _ _ => rfl)) ce_int) ca_nil)) (ce_var (pv 1)))))) css_nil)
    (css_cons (cs_name (fun q => ps_set (i := 3) sc__law_taken.nd rfl (by first | exact Or.inl rfl | exact Or.inr rfl) q) (ce_ix (ix_A (hu1 hr)) (ixA_ok Z.hK) ixA_two (ce_ix (ix_A (hu1 hr)) (ixA_ok Z.hK) ixA_two (ce_var (pv 0)) ce_int (fun _ _ => rfl)) (ce_bin op_sub subF_ok subF_two (ce_ix (ix_A (hu1 hr)) (ixA_ok Z.hK) ixA_two (ce_var (pv 0)) ce_int (fun _ _ => rfl)) ce_int) (fun _ _ => rfl)))
    (css_cons (cs_subA (fun q qi => ps_asg q (pg_sub (pv 0) qi (set_A (hu1 hr)))) (ce_bin op_modN modF_ok modF_two (ce_callTy call_int1 intF_ok (by rfl) Z.g_int (by decide +kernel) (ca_cons (ce_bin op_addA (addF_ok Z.hK) addF_two (ce_bin op_addA (addF_ok Z.hK) addF_two (ce_bin op_mulWA mulWF_ok mulWF_two (ce_ix (ix_A (hu1 hr)) (ixA_ok Z.hK) ixA_two (ce_var (pv 0)) ce_int (fun _ _ => rfl)) ce_int) (ce_var (pv 3))) ce_int) ca_nil)) ce_int) ce_int)
    (css_cons (cs_if (ct_cmp (op_geG hr.units) (geG_ok Z.hK) cmpG_two cmpG_boo (ce_var (pv 3)) (ce_bin op_pow powF_ok powF_two ce_int ce_int) (by rfl)) (css_one (cs_subA (fun q qi => ps_asg q (pg_sub (pv 0) qi (set_A (hu1 hr)))) (ce_bin op_fdivZ fdivZF_ok fdivZF_two (ce_var (pv 3)) (ce_var (pv 1))) ce_int)) css_nil)
    (css_one (cs_ret (ce_bin op_modN modF_ok modF_two (ce_callTy call_int1 intF_ok (by rfl) Z.g_int (by decide +kernel) (ca_cons (ce_var (pv 3)) ca_nil)) (ce_var (pv 1)))))))))))
theorem c__law_taken {P : Program} {w : World} {K : Frag} {mg : Str → Option Value} {base : Heap} {C : Cfg} (Z : Fx P w K mg base C) : ∃ fd, FnOk P w K mg base CX0 2 (He.ga K "_law_taken") fd ["_law_row", "_law_many"] (spO C 2 φ__law_taken) ∧ Binds K fd ["_law_row", "_law_many"] [] := by
  obtain ⟨fd, F⟩ := Z.f__law_taken
  refine ⟨fd, ?_, F.bindsN fun _ _ _ _ _ _ us hl => match us, hl with | [_, _], _ => rfl⟩
  exact fnO_of F sc__law_taken Z.hK (fun cdv A outer s0 H E hcd hr => d__law_taken Z  hr)
abbrev st_is_in : Stmt := top 9
def N_is_in : List Str := ["value", "least", "most"]
theorem sc_is_in : FnScope N_is_in ["value", "least", "most"] (defScope st_is_in) := ⟨rfl, rfl, rfl, by decide +kernel, rfl, by decide +kernel, by decide +kernel⟩
theorem d_is_in {P : Program} {w : World} {K : Frag} {mg : Str → Option Value} {base : Heap} {C : Cfg} (Z : Fx P w K mg base C)   {cdv : Value} {A : Around} {outer : List Env} {s0 : Shared} {H : Hp} {E : XK} (hr : Room 1 (A.deeper (envOfC "is_in" (defScope st_is_in) s0.heap.objs.size (He.ga K "is_in") (cdv)))) :
    PSs (cxOf CX0 P w K mg base N_is_in "is_in" (defScope st_is_in) (He.ga K "is_in") (cdv) A outer s0 H E).nox (defBody st_is_in) (tS C s_is_in) :=
  (css_one (cs_ret (ce_and (ce_isi Z.hK (T := .int) (fun q => pe_callB call_isi (by rfl) Z.g_isinstance (by decide +kernel) (pa_cons q (pa_cons (pe_bltn (v := .ty "int") (by rfl) Z.g_int (by decide +kernel) rfl) pa_nil))) (ce_var (pv 0))) (ce_and (ce_notF (ce_isi Z.hK (T := .bool) (fun q => pe_callB call_isi (by rfl) Z.g_isinstance (by decide +kernel) (pa_cons q (pa_cons (pe_bltn (v := .ty "bool") (by rfl) Z.g_bool (by decide +kernel) rfl) pa_nil))) (ce_var (pv 0))) Z.hK) (ce_one (ce_chain (op_leG hr.units) (op_leG hr.units) (leG_ok Z.hK) (leG_ok Z.hK) (ce_var (pv 1)) (ce_var (pv 0)) (ce_var (pv 2))) pe_one) Z.hK) Z.hK)))
theorem c_is_in {P : Program} {w : World} {K : Frag} {mg : Str → Option Value} {base : Heap} {C : Cfg} (Z : Fx P w K mg base C) : ∃ fd, FnOk P w K mg base CX0 2 (He.ga K "is_in") fd ["value", "least", "most"] (spI C 3 φ_is_in) ∧ Binds K fd ["value", "least", "most"] [] := by
  obtain ⟨fd, F⟩ := Z.f_is_in
  refine ⟨fd, ?_, F.bindsN fun _ _ _ _ _ _ us hl => match us, hl with | [_, _, _], _ => rfl⟩
  exact fnI_of F sc_is_in Z.hK (fun cdv A outer s0 H E hcd hr => d_is_in Z  hr)
abbrev st_need_span : Stmt := top 12
def N_need_span : List Str := ["span"]
theorem sc_need_span : FnScope N_need_span ["span"] (defScope st_need_span) := ⟨rfl, rfl, rfl, by decide +kernel, rfl, by decide +kernel, by decide +kernel⟩
theorem d_need_span {P : Program} {w : World} {K : Frag} {mg : Str → Option Value} {base : Heap} {C : Cfg} (Z : Fx P w K mg base C) {fd_is_in : FuncData} (F_is_in : FnOk P w K mg base CX0 2 (He.ga K "is_in") fd_is_in ["value", "least", "most"] (spI C 3 φ_is_in)) (B_is_in : Binds K fd_is_in ["value", "least", "most"] [])  {cdv : Value} {A : Around} {outer : List Env} {s0 : Shared} {H : Hp} {E : XK} (hr : Room 2 (A.deeper (envOfC "need_span" (defScope st_need_span) s0.heap.objs.size (He.ga K "need_span") (cdv)))) :
    PSs (cxOf CX0 P w K mg base N_need_span "need_span" (defScope st_need_span) (He.ga K "need_span") (cdv) A outer s0 H E).nox (defBody st_need_span) (tS C s_need_span) :=
  (css_one (cs_if (ct_notF (ct_truth (ce_call (F_is_in.mono (by decide)) hr (by rfl) Z.m_is_in Z.k_is_in B_is_in (ca_cons (ce_var (pv 0)) (ca_cons ce_int (ca_cons (ce_globI (by rfl) Z.i_MOST_SPAN) ca_nil))) rfl) Z.hK (by intro _; rfl))) (css_one cs_never) css_nil))
theorem c_need_span {P : Program} {w : World} {K : Frag} {mg : Str → Option Value} {base : Heap} {C : Cfg} (Z : Fx P w K mg base C) : ∃ fd, FnOk P w K mg base CX0 3 (He.ga K "need_span") fd ["span"] (spI C 1 φ_need_span) ∧ Binds K fd ["span"] [] := by
  obtain ⟨fd, F⟩ := Z.f_need_span
  obtain ⟨fd_is_in, F_is_in, B_is_in⟩ := c_is_in (P := P) (w := w) Z
  refine ⟨fd, ?_, F.bindsN fun _ _ _ _ _ _ us hl => match us, hl with | [_], _ => rfl⟩
  exact fnI_of F sc_need_span Z.hK (fun cdv A outer s0 H E hcd hr => d_need_span Z F_is_in B_is_in hr)
abbrev st_is_input : Stmt := top 10
def N_is_input : List Str := ["value"]
theorem sc_is_input : FnScope N_is_input ["value"] (defScope st_is_input) := ⟨rfl, rfl, rfl, by decide +kernel, rfl, by decide +kernel, by decide +kernel⟩
theorem d_is_input {P : Program} {w : World} {K : Frag} {mg : Str → Option Value} {base : Heap} {C : Cfg} (Z : Fx P w K mg base C)   {A : Around} {outer : List Env} {s0 : Shared} {H : Hp} {E : XK} (hr : Room 1 (A.deeper (envOfC "is_input" (defScope st_is_input) s0.heap.objs.size (He.ga K "is_input") (.ref (He.codeOf K ("is_input", none)))))) :
    PSs (cxOf CX0 P w K mg base N_is_input "is_input" (defScope st_is_input) (He.ga K "is_input") (.ref (He.codeOf K ("is_input", none))) A outer s0 H E).nox (defBody st_is_input) (tS C s_is_input) :=
  (css_cons (cs_if (cw_or (ct_notF (ct_truth (ce_isi Z.hK (T := .str) (fun q => pe_callB call_isi (by rfl) Z.g_isinstance (by decide +kernel) (pa_cons q (pa_cons (pe_bltn (v := .ty "str") (by rfl) Z.g_str (by decide +kernel) rfl) pa_nil))) (ce_var (pv 0))) Z.hK (by intro _; rfl))) (cw_or1 (ct_cmp (op_gtG hr.units) (gtG_ok Z.hK) cmpG_two cmpG_boo (ce_callB call_lenA (lenA_ok Z.hK) (by rfl) Z.g_len (by decide +kernel) (ca_cons (ce_var (pv 0)) ca_nil)) (ce_globI (by rfl) Z.i_MOST_STEPS) (by rfl)))).pt (css_one (cs_ret ce_bl)) css_nil)
    (css_one (cs_ret (ce_allS (fun q => pe_allS hr (by rfl) Z.g_all (by decide +kernel) Z.tb_is_input rfl (genS_of rfl rfl (by decide +kernel) rfl rfl (by decide +kernel)) q (elt_in rfl rfl) (by intro _; rfl)) Z.tm_is_input (ce_var (pv 0))))))
theorem c_is_input {P : Program} {w : World} {K : Frag} {mg : Str → Option Value} {base : Heap} {C : Cfg} (Z : Fx P w K mg base C) : ∃ fd, FnOk P w K mg base CX0 2 (He.ga K "is_input") fd ["value"] (spI C 1 φ_is_input) ∧ Binds K fd ["value"] [] := by
  obtain ⟨fd, F⟩ := Z.f_is_input
  refine ⟨fd, ?_, F.bindsN fun _ _ _ _ _ _ us hl => match us, hl with | [_], _ => rfl⟩
  exact fnI_of F sc_is_input Z.hK (fun cdv A outer s0 H E hcd hr => by
    obtain ⟨_, _, _, _, _, _, _, _, _, _, _, lk, _⟩ := F.ex
    have e := (hcd _ _ _ _ lk).symm.trans (Z.tc_is_input _ _ _ _ lk)
    subst e
    exact d_is_input Z  hr)
abbrev st_need_asked : Stmt := top 37
def N_need_asked : List Str := ["span", "some", "index", "one"]
theorem sc_need_asked : FnScope N_need_asked ["span", "some"] (defScope st_need_asked) := ⟨rfl, rfl, rfl, by decide +kernel, rfl, by decide +kernel, by decide +kernel⟩
theorem d_need_asked {P : Program} {w : World} {K : Frag} {mg : Str → Option Value} {base : Heap} {C : Cfg} (Z : Fx P w K mg base C) {fd_need_span : FuncData} (F_need_span : FnOk P w K mg base CX0 3 (He.ga K "need_span") fd_need_span ["span"] (spI C 1 φ_need_span)) (B_need_span : Binds K fd_need_span ["span"] []) {fd_is_input : FuncData} (F_is_input : FnOk P w K mg base CX0 2 (He.ga K "is_input") fd_is_input ["value"] (spI C 1 φ_is_input)) (B_is_input : Binds K fd_is_input ["value"] [])  {cdv : Value} {A : Around} {outer : List Env} {s0 : Shared} {H : Hp} {E : XK} (hr : Room 3 (A.deeper (envOfC "need_asked" (defScope st_need_asked) s0.heap.objs.size (He.ga K "need_asked") (cdv)))) :
    PSs (cxOf CX0 P w K mg base N_need_asked "need_asked" (defScope st_need_asked) (He.ga K "need_asked") (cdv) A outer s0 H E).nox (defBody st_need_asked) (tS C s_need_asked) :=
  (css_cons (cs_exp (ce_call (F_need_span.mono (by decide)) hr (by rfl) Z.m_need_span Z.k_need_span B_need_span (ca_cons (ce_var (pv 0)) ca_nil) rfl))
    (css_cons (cs_if (cw_or (ct_notF (ct_truth (ce_isi Z.hK (T := .tuple) (fun q => pe_callB call_isi (by rfl) Z.g_isinstance (by decide +kernel) (pa_cons q (pa_cons (pe_bltn (v := .ty "tuple") (by rfl) Z.g_tuple (by decide +kernel) rfl) pa_nil))) (ce_var (pv 1))) Z.hK (by intro _; rfl))) (cw_or1 (ct_cmp (op_gtG hr.units) (gtG_ok Z.hK) cmpG_two cmpG_boo (ce_callB call_lenA (lenA_ok Z.hK) (by rfl) Z.g_len (by decide +kernel) (ca_cons (ce_var (pv 1)) ca_nil)) (ce_globI (by rfl) Z.i_MOST_INPUTS) (by rfl)))).pt (css_one cs_never) css_nil)
    (css_one (cs_for PassesOwn.never rfl (ci_enum (by rfl) Z.g_enumerate (ce_var (pv 1))) (cg_tup rfl Z.hK (cgs_cons (cg_name (pg_name (i := 2) sc_need_asked.nd rfl (by first | exact Or.inl rfl | exact Or.inr rfl))) (cgs_cons (cg_name (pg_name (i := 3) sc_need_asked.nd rfl (by first | exact Or.inl rfl | exact Or.inr rfl))) cgs_nil)) rfl) (css_one (cs_if (ct_notF (ct_truth (ce_call (F_is_input.mono (by decide)) hr (by rfl) Z.m_is_input Z.k_is_input B_is_input (ca_cons (ce_var (pv 3)) ca_nil) rfl) Z.hK (by intro _; rfl))) (css_one cs_never) css_nil))))))
theorem c_need_asked {P : Program} {w : World} {K : Frag} {mg : Str → Option Value} {base : Heap} {C : Cfg} (Z : Fx P w K mg base C) : ∃ fd, FnOk P w K mg base CX0 4 (He.ga K "need_asked") fd ["span", "some"] (spI C 2 φ_need_asked) ∧ Binds K fd ["span", "some"] [] := by
  obtain ⟨fd, F⟩ := Z.f_need_asked
  obtain ⟨fd_need_span, F_need_span, B_need_span⟩ := c_need_span (P := P) (w := w) Z
  obtain ⟨fd_is_input, F_is_input, B_is_input⟩ := c_is_input (P := P) (w := w) Z
  refine ⟨fd, ?_, F.bindsN fun _ _ _ _ _ _ us hl => match us, hl with | [_, _], _ => rfl⟩
  exact fnI_of F sc_need_asked Z.hK (fun cdv A outer s0 H E hcd hr => d_need_asked Z F_need_span B_need_span F_is_input B_is_input hr)
abbrev st_lead : Stmt := top 38
def N_lead : List Str := ["row", "k", "one"]
theorem sc_lead : FnScope N_lead ["row"] (defScope st_lead) := ⟨rfl, rfl, rfl, by decide +kernel, rfl, by decide +kernel, by decide +kernel⟩
theorem d_lead {P : Program} {w : World} {K : Frag} {mg : Str → Option Value} {base : Heap} {C : Cfg} (Z : Fx P w K mg base C)   {cdv : Value} {A : Around} {outer : List Env} {s0 : Shared} {H : Hp} {E : XK} (hr : Room 1 (A.deeper (envOfC "lead" (defScope st_lead) s0.heap.objs.size (He.ga K "lead") (cdv)))) :
    PSs (cxOf CX0 P w K mg base N_lead "lead" (defScope st_lead) (He.ga K "lead") (cdv) A outer s0 H E).nox (defBody st_lead) (tS C s_lead) :=
  (css_cons (cs_for PassesOwn.never rfl (ci_enum (by rfl) Z.g_enumerate (ce_var (pv 0))) (cg_tup rfl Z.hK (cgs_cons (cg_name (pg_name (i := 1) sc_lead.nd rfl (by first | exact Or.inl rfl | exact Or.inr rfl))) (cgs_cons (cg_name (pg_name (i := 2) sc_lead.nd rfl (by first | exact Or.inl rfl | exact Or.inr rfl))) cgs_nil)) rfl) (css_one (cs_if (ct_cmp (op_neA hr.units) (neF_ok Z.hK) neF_two neF_boo (ce_ix (ix_A (hu1 hr)) (ixA_ok Z.hK) ixA_two (ce_var (pv 2)) ce_int (fun _ _ => rfl)) ce_int (by rfl)) (css_one (cs_ret (ce_var (pv 1)))) css_nil)))
    (css_one (cs_ret ce_non)))
theorem c_lead {P : Program} {w : World} {K : Frag} {mg : Str → Option Value} {base : Heap} {C : Cfg} (Z : Fx P w K mg base C) : ∃ fd, FnOk P w K mg base CX0 2 (He.ga K "lead") fd ["row"] (spI C 1 φ_lead) ∧ Binds K fd ["row"] [] := by
  obtain ⟨fd, F⟩ := Z.f_lead
  refine ⟨fd, ?_, F.bindsN fun _ _ _ _ _ _ us hl => match us, hl with | [_], _ => rfl⟩
  exact fnI_of F sc_lead Z.hK (fun cdv A outer s0 H E hcd hr => d_lead Z  hr)
abbrev st_ratio : Stmt := top 22
def N_ratio : List Str := ["top", "bottom", "common"]
theorem sc_ratio : FnScope N_ratio ["top", "bottom"] (defScope st_ratio) := ⟨rfl, rfl, rfl, by decide +kernel, rfl, by decide +kernel, by decide +kernel⟩
theorem d_ratio {P : Program} {w : World} {K : Frag} {mg : Str → Option Value} {base : Heap} {C : Cfg} (Z : Fx P w K mg base C)   {cdv : Value} {A : Around} {outer : List Env} {s0 : Shared} {H : Hp} {E : XK} (hr : Room 1 (A.deeper (envOfC "ratio" (defScope st_ratio) s0.heap.objs.size (He.ga K "ratio") (cdv)))) :
    PSs (cxOf CX0 P w K mg base N_ratio "ratio" (defScope st_ratio) (He.ga K "ratio") (cdv) A outer s0 H E).nox (defBody st_ratio) (tS C s_ratio) :=
  (css_cons (cs_name (fun q => ps_set (i := 2) sc_ratio.nd rfl (by first | exact Or.inl rfl | exact Or.inr rfl) q) (ce_ite (ct_cmp (op_gtG hr.units) (gtG_ok Z.hK) cmpG_two cmpG_boo (ce_var (pv 1)) ce_int (by rfl)) (ce_callBfun cr_gcd gcdF_ok (by rfl) Z.b_gcd (ca_cons (ce_var (pv 0)) (ca_cons (ce_var (pv 1)) ca_nil))) (ce_bin op_sub subF_ok subF_two ce_int (ce_callBfun cr_gcd gcdF_ok (by rfl) Z.b_gcd (ca_cons (ce_var (pv 0)) (ca_cons (ce_var (pv 1)) ca_nil))))))
    (css_one (cs_ret (ce_tup (ca_cons (ce_bin op_fdivZ fdivZF_ok fdivZF_two (ce_var (pv 0)) (ce_var (pv 2))) (ca_cons (ce_bin op_fdivZ fdivZF_ok fdivZF_two (ce_var (pv 1)) (ce_var (pv 2))) ca_nil))))))
theorem c_ratio {P : Program} {w : World} {K : Frag} {mg : Str → Option Value} {base : Heap} {C : Cfg} (Z : Fx P w K mg base C) : ∃ fd, FnOk P w K mg base CX0 2 (He.ga K "ratio") fd ["top", "bottom"] (spI C 2 φ_ratio) ∧ Binds K fd ["top", "bottom"] [] := by
  obtain ⟨fd, F⟩ := Z.f_ratio
  refine ⟨fd, ?_, F.bindsN fun _ _ _ _ _ _ us hl => match us, hl with | [_, _], _ => rfl⟩
  exact fnI_of F sc_ratio Z.hK (fun cdv A outer s0 H E hcd hr => d_ratio Z  hr)
abbrev st_over : Stmt := top 25
def N_over : List Str := ["one", "other"]
theorem sc_over : FnScope N_over ["one", "other"] (defScope st_over) := ⟨rfl, rfl, rfl, by decide +kernel, rfl, by decide +kernel, by decide +kernel⟩
theorem d_over {P : Program} {w : World} {K : Frag} {mg : Str → Option Value} {base : Heap} {C : Cfg} (Z : Fx P w K mg base C) {fd_ratio : FuncData} (F_ratio : FnOk P w K mg base CX0 2 (He.ga K "ratio") fd_ratio ["top", "bottom"] (spI C 2 φ_ratio)) (B_ratio : Binds K fd_ratio ["top", "bottom"] [])  {cdv : Value} {A : Around} {outer : List Env} {s0 : Shared} {H : Hp} {E : XK} (hr : Room 2 (A.deeper (envOfC "over" (defScope st_over) s0.heap.objs.size (He.ga K "over") (cdv)))) :
    PSs (cxOf CX0 P w K mg base N_over "over" (defScope st_over) (He.ga K "over") (cdv) A outer s0 H E).nox (defBody st_over) (tS C s_over) :=
  (css_one (cs_ret (ce_call (F_ratio.mono (by decide)) hr (by rfl) Z.m_ratio Z.k_ratio B_ratio (ca_cons (ce_bin op_mulWA mulWF_ok mulWF_two (ce_ix (ix_A (hu1 hr)) (ixA_ok Z.hK) ixA_two (ce_var (pv 0)) ce_int (fun _ _ => rfl)) (ce_ix (ix_A (hu1 hr)) (ixA_ok Z.hK) ixA_two (ce_var (pv 1)) ce_int (fun _ _ => rfl))) (ca_cons (ce_bin op_mulWA mulWF_ok mulWF_two (ce_ix (ix_A (hu1 hr)) (ixA_ok Z.hK) ixA_two (ce_var (pv 0)) ce_int (fun _ _ => rfl)) (ce_ix (ix_A (hu1 hr)) (ixA_ok Z.hK) ixA_two (ce_var (pv 1)) ce_int (fun _ _ => rfl))) ca_nil)) rfl)))
theorem c_over {P : Program} {w : World} {K : Frag} {mg : Str → Option Value} {base : Heap} {C : Cfg} (Z : Fx P w K mg base C) : ∃ fd, FnOk P w K mg base CX0 3 (He.ga K "over") fd ["one", "other"] (spI C 2 φ_over) ∧ Binds K fd ["one", "other"] [] := by
  obtain ⟨fd, F⟩ := Z.f_over
  obtain ⟨fd_ratio, F_ratio, B_ratio⟩ := c_ratio (P := P) (w := w) Z
  refine ⟨fd, ?_, F.bindsN fun _ _ _ _ _ _ us hl => match us, hl with | [_, _], _ => rfl⟩
  exact fnI_of F sc_over Z.hK (fun cdv A outer s0 H E hcd hr => d_over Z F_ratio B_ratio hr)
abbrev st_minus : Stmt := top 23
def N_minus : List Str := ["one", "other"]
theorem sc_minus : FnScope N_minus ["one", "other"] (defScope st_minus) := ⟨rfl, rfl, rfl, by decide +kernel, rfl, by decide +kernel, by decide +kernel⟩
theorem d_minus {P : Program} {w : World} {K : Frag} {mg : Str → Option Value} {base : Heap} {C : Cfg} (Z : Fx P w K mg base C) {fd_ratio : FuncData} (F_ratio : FnOk P w K mg base CX0 2 (He.ga K "ratio") fd_ratio ["top", "bottom"] (spI C 2 φ_ratio)) (B_ratio : Binds K fd_ratio ["top", "bottom"] [])  {cdv : Value} {A : Around} {outer : List Env} {s0 : Shared} {H : Hp} {E : XK} (hr : Room 2 (A.deeper (envOfC "minus" (defScope st_minus) s0.heap.objs.size (He.ga K "minus") (cdv)))) :
    PSs (cxOf CX0 P w K mg base N_minus "minus" (defScope st_minus) (He.ga K "minus") (cdv) A outer s0 H E).nox (defBody st_minus) (tS C s_minus) :=
  (css_one (cs_ret (ce_call (F_ratio.mono (by decide)) hr (by rfl) Z.m_ratio Z.k_ratio B_ratio (ca_cons (ce_bin op_sub subF_ok subF_two (ce_bin op_mulWA mulWF_ok mulWF_two (ce_ix (ix_A (hu1 hr)) (ixA_ok Z.hK) ixA_two (ce_var (pv 0)) ce_int (fun _ _ => rfl)) (ce_ix (ix_A (hu1 hr)) (ixA_ok Z.hK) ixA_two (ce_var (pv 1)) ce_int (fun _ _ => rfl))) (ce_bin op_mulWA mulWF_ok mulWF_two (ce_ix (ix_A (hu1 hr)) (ixA_ok Z.hK) ixA_two (ce_var (pv 1)) ce_int (fun _ _ => rfl)) (ce_ix (ix_A (hu1 hr)) (ixA_ok Z.hK) ixA_two (ce_var (pv 0)) ce_int (fun _ _ => rfl)))) (ca_cons (ce_bin op_mulWA mulWF_ok mulWF_two (ce_ix (ix_A (hu1 hr)) (ixA_ok Z.hK) ixA_two (ce_var (pv 0)) ce_int (fun _ _ => rfl)) (ce_ix (ix_A (hu1 hr)) (ixA_ok Z.hK) ixA_two (ce_var (pv 1)) ce_int (fun _ _ => rfl))) ca_nil)) rfl)))
theorem c_minus {P : Program} {w : World} {K : Frag} {mg : Str → Option Value} {base : Heap} {C : Cfg} (Z : Fx P w K mg base C) : ∃ fd, FnOk P w K mg base CX0 3 (He.ga K "minus") fd ["one", "other"] (spI C 2 φ_minus) ∧ Binds K fd ["one", "other"] [] := by
  obtain ⟨fd, F⟩ := Z.f_minus
  obtain ⟨fd_ratio, F_ratio, B_ratio⟩ := c_ratio (P := P) (w := w) Z
  refine ⟨fd, ?_, F.bindsN fun _ _ _ _ _ _ us hl => match us, hl with | [_, _], _ => rfl⟩
  exact fnI_of F sc_minus Z.hK (fun cdv A outer s0 H E hcd hr => d_minus Z F_ratio B_ratio hr)
abbrev st_by : Stmt := top 24
def N_by : List Str := ["one", "other"]
theorem sc_by : FnScope N_by ["one", "other"] (defScope st_by) := ⟨rfl, rfl, rfl, by decide +kernel, rfl, by decide +kernel, by decide +kernel⟩
theorem d_by {P : Program} {w : World} {K : Frag} {mg : Str → Option Value} {base : Heap} {C : Cfg} (Z : Fx P w K mg base C) {fd_ratio : FuncData} (F_ratio : FnOk P w K mg base CX0 2 (He.ga K "ratio") fd_ratio ["top", "bottom"] (spI C 2 φ_ratio)) (B_ratio : Binds K fd_ratio ["top", "bottom"] [])  {cdv : Value} {A : Around} {outer : List Env} {s0 : Shared} {H : Hp} {E : XK} (hr : Room 2 (A.deeper (envOfC "by" (defScope st_by) s0.heap.objs.size (He.ga K "by") (cdv)))) :
    PSs (cxOf CX0 P w K mg base N_by "by" (defScope st_by) (He.ga K "by") (cdv) A outer s0 H E).nox (defBody st_by) (tS C s_by) :=
  (css_one (cs_ret (ce_call (F_ratio.mono (by decide)) hr (by rfl) Z.m_ratio Z.k_ratio B_ratio (ca_cons (ce_bin op_mulWA mulWF_ok mulWF_two (ce_ix (ix_A (hu1 hr)) (ixA_ok Z.hK) ixA_two (ce_var (pv 0)) ce_int (fun _ _ => rfl)) (ce_ix (ix_A (hu1 hr)) (ixA_ok Z.hK) ixA_two (ce_var (pv 1)) ce_int (fun _ _ => rfl))) (ca_cons (ce_bin op_mulWA mulWF_ok mulWF_two (ce_ix (ix_A (hu1 hr)) (ixA_ok Z.hK) ixA_two (ce_var (pv 0)) ce_int (fun _ _ => rfl)) (ce_ix (ix_A (hu1 hr)) (ixA_ok Z.hK) ixA_two (ce_var (pv 1)) ce_int (fun _ _ => rfl))) ca_nil)) rfl)))
theorem c_by {P : Program} {w : World} {K : Frag} {mg : Str → Option Value} {base : Heap} {C : Cfg} (Z : Fx P w K mg base C) : ∃ fd, FnOk P w K mg base CX0 3 (He.ga K "by") fd ["one", "other"] (spI C 2 φ_by) ∧ Binds K fd ["one", "other"] [] := by
  obtain ⟨fd, F⟩ := Z.f_by
  obtain ⟨fd_ratio, F_ratio, B_ratio⟩ := c_ratio (P := P) (w := w) Z
  refine ⟨fd, ?_, F.bindsN fun _ _ _ _ _ _ us hl => match us, hl with | [_, _], _ => rfl⟩
  exact fnI_of F sc_by Z.hK (fun cdv A outer s0 H E hcd hr => d_by Z F_ratio B_ratio hr)
abbrev st_reduced_by_o : Stmt := top 39
def N_reduced_by_o : List Str := ["rows", "row", "one", "k", "part", "a", "b"]
theorem sc_reduced_by_o : FnScope N_reduced_by_o ["rows", "row"] (defScope st_reduced_by_o) := ⟨rfl, rfl, rfl, by decide +kernel, rfl, by decide +kernel, by decide +kernel⟩
theorem d_reduced_by_o {P : Program} {w : World} {K : Frag} {mg : Str → Option Value} {base : Heap} {C : Cfg} (Z : Fx P w K mg base C) {fd_lead : FuncData} (F_lead : FnOk P w K mg base CX0 2 (He.ga K "lead") fd_lead ["row"] (spI C 1 φ_lead)) (B_lead : Binds K fd_lead ["row"] []) {fd_over : FuncData} (F_over : FnOk P w K mg base CX0 3 (He.ga K "over") fd_over ["one", "other"] (spI C 2 φ_over)) (B_over : Binds K fd_over ["one", "other"] []) {fd_minus : FuncData} (F_minus : FnOk P w K mg base CX0 3 (He.ga K "minus") fd_minus ["one", "other"] (spI C 2 φ_minus)) (B_minus : Binds K fd_minus ["one", "other"] []) {fd_by : FuncData} (F_by : FnOk P w K mg base CX0 3 (He.ga K "by") fd_by ["one", "other"] (spI C 2 φ_by)) (B_by : Binds K fd_by ["one", "other"] [])  {cdv : Value} {A : Around} {outer : List Env} {s0 : Shared} {H : Hp} {E : XK} (hr : Room 3 (A.deeper (envOfC "reduced_by" (defScope st_reduced_by_o) s0.heap.objs.size (He.ga K "reduced_by") (cdv)))) :
    PSs (cxOf CX0 P w K mg base N_reduced_by_o "reduced_by" (defScope st_reduced_by_o) (He.ga K "reduced_by") (cdv) A outer s0 H E).nox (defBody st_reduced_by_o) (tS C s_reduced_by_o) :=
  (css_cons (cs_forV PassesOwn.never rfl (ci_varL Z.hK (pv 0)) (cg_name (pg_name (i := 2) sc_reduced_by_o.nd rfl (by first | exact Or.inl rfl | exact Or.inr rfl))) (css_cons (cs_name (fun q => ps_set (i := 3) sc_reduced_by_o.nd rfl (by first | exact Or.inl rfl | exact Or.inr rfl) q) (ce_call (F_lead.mono (by decide)) hr (by rfl) Z.m_lead Z.k_lead B_lead (ca_cons (ce_var (pv 2)) ca_nil) rfl))
      (css_one (cs_if (ct_cmp (op_neA hr.units) (neF_ok Z.hK) neF_two neF_boo (ce_ix (ix_A (hu1 hr)) (ixA_ok Z.hK) ixA_two (ce_ix (ix_A (hu1 hr)) (ixA_ok Z.hK) ixA_two (ce_var (pv 1)) (ce_var (pv 3)) (fun _ _ => rfl)) ce_int (fun _ _ => rfl)) ce_int (by rfl)) (css_cons (cs_name (fun q => ps_set (i := 4) sc_reduced_by_o.nd rfl (by first | exact Or.inl rfl | exact Or.inr rfl) q) (ce_call (F_over.mono (by decide)) hr (by rfl) Z.m_over Z.k_over B_over (ca_cons (ce_ix (ix_A (hu1 hr)) (ixA_ok Z.hK) ixA_two (ce_var (pv 1)) (ce_var (pv 3)) (fun _ _ => rfl)) (ca_cons (ce_ix (ix_A (hu1 hr)) (ixA_ok Z.hK) ixA_two (ce_var (pv 2)) (ce_var (pv 3)) (fun _ _ => rfl)) ca_nil)) rfl))
        (css_one (cs_setLc (own := [("a", 5), ("b", 6)]) rfl sc_reduced_by_o.nd rfl rfl (by rfl) (ci_zip2 (by rfl) Z.g_zip (ca_cons (ce_var (pv 1)) (ca_cons (ce_var (pv 2)) ca_nil))) (blkE (N2 := N_reduced_by_o) (sc2 := defScope st_reduced_by_o) rfl rfl ⟨rfl, by decide +kernel, by decide +kernel, by decide +kernel, by decide +kernel⟩) (fun _ _ _ _ _ => (cg_tup rfl Z.hK (cgs_cons (cg_name (pg_name (i := 5) sc_reduced_by_o.nd rfl (by first | exact Or.inl rfl | exact Or.inr rfl))) (cgs_cons (cg_name (pg_name (i := 6) sc_reduced_by_o.nd rfl (by first | exact Or.inl rfl | exact Or.inr rfl))) cgs_nil)) rfl)) (fun _ _ _ _ _ => cts_nil) (fun _ _ _ _ _ => (ce_call (F_minus.mono (by decide)) hr (by rfl) Z.m_minus Z.k_minus B_minus (ca_cons (ce_var (pv 5)) (ca_cons (ce_call (F_by.mono (by decide)) hr (by rfl) Z.m_by Z.k_by B_by (ca_cons (ce_var (pv 4)) (ca_cons (ce_var (pv 6)) ca_nil)) rfl) ca_nil)) rfl)) (by decide)))) css_nil))))
    (css_one (cs_ret (ce_var (pv 1)))))
theorem c_reduced_by_o {P : Program} {w : World} {K : Frag} {mg : Str → Option Value} {base : Heap} {C : Cfg} (Z : Fx P w K mg base C) : ∃ fd, FnOk P w K mg base CX0 4 (He.ga K "reduced_by") fd ["rows", "row"] (spO C 2 φ_reduced_by_o) ∧ Binds K fd ["rows", "row"] [] := by
  obtain ⟨fd, F⟩ := Z.f_reduced_by
  obtain ⟨fd_lead, F_lead, B_lead⟩ := c_lead (P := P) (w := w) Z
  obtain ⟨fd_over, F_over, B_over⟩ := c_over (P := P) (w := w) Z
  obtain ⟨fd_minus, F_minus, B_minus⟩ := c_minus (P := P) (w := w) Z
  obtain ⟨fd_by, F_by, B_by⟩ := c_by (P := P) (w := w) Z
  refine ⟨fd, ?_, F.bindsN fun _ _ _ _ _ _ us hl => match us, hl with | [_, _], _ => rfl⟩
  exact fnO_of F sc_reduced_by_o Z.hK (fun cdv A outer s0 H E hcd hr => d_reduced_by_o Z F_lead B_lead F_over B_over F_minus B_minus F_by B_by hr)
abbrev st_step : Stmt := top 13
def N_step : List Str := ["memory", "letter", "old", "new", "at"]
theorem sc_step : FnScope N_step ["memory", "letter"] (defScope st_step) := ⟨rfl, rfl, rfl, by decide +kernel, rfl, by decide +kernel, by decide +kernel⟩
theorem d_step {P : Program} {w : World} {K : Frag} {mg : Str → Option Value} {base : Heap} {C : Cfg} (Z : Fx P w K mg base C)   {cdv : Value} {A : Around} {outer : List Env} {s0 : Shared} {H : Hp} {E : XK} (hr : Room 1 (A.deeper (envOfC "step" (defScope st_step) s0.heap.objs.size (He.ga K "step") (cdv)))) :
    PSs (cxOf CX0 P w K mg base N_step "step" (defScope st_step) (He.ga K "step") (cdv) A outer s0 H E).nox (defBody st_step) (tS C s_step) :=
  (css_cons (cs_asg (ce_ite (ct_cmp (op_eqA hr.units) (eqF_ok Z.hK) eqF_two eqF_boo (ce_var (pv 1)) (ce_str (by rfl)) (by rfl)) (ce_tup (ca_cons (ce_str (by rfl)) (ca_cons (ce_str (by rfl)) ca_nil))) (ce_tup (ca_cons (ce_str (by rfl)) (ca_cons (ce_str (by rfl)) ca_nil)))) (cg_tup rfl Z.hK (cgs_cons (cg_name (pg_name (i := 2) sc_step.nd rfl (by first | exact Or.inl rfl | exact Or.inr rfl))) (cgs_cons (cg_name (pg_name (i := 3) sc_step.nd rfl (by first | exact Or.inl rfl | exact Or.inr rfl))) cgs_nil)) rfl))
    (css_cons (cs_name (fun q => ps_set (i := 4) sc_step.nd rfl (by first | exact Or.inl rfl | exact Or.inr rfl) q) (ce_strm rfindF_ok rfindF_str (fun q qa => pe_bm PySem.F.plainAttrs_str PySem.F.slot_str_rfind PySem.F.type_str_rfind mt_rfind q qa) (ce_var (pv 0)) (ca_cons (ce_var (pv 2)) ca_nil)))
    (css_one (cs_ret (ce_ite (ct_cmp (op_ltG hr.units) (ltG_ok Z.hK) cmpG_two cmpG_boo (ce_var (pv 4)) ce_int (by rfl)) (ce_var (pv 0)) (ce_bin op_addA (addF_ok Z.hK) addF_two (ce_bin op_addA (addF_ok Z.hK) addF_two (ce_sl2 Z.hK (ce_var (pv 0)) (ce_var (pv 4))) (ce_var (pv 3))) (ce_sl1 Z.hK (ce_var (pv 0)) (ce_bin op_addA (addF_ok Z.hK) addF_two (ce_var (pv 4)) ce_int))))))))
theorem c_step {P : Program} {w : World} {K : Frag} {mg : Str → Option Value} {base : Heap} {C : Cfg} (Z : Fx P w K mg base C) : ∃ fd, FnOk P w K mg base CX0 2 (He.ga K "step") fd ["memory", "letter"] (spI C 2 φ_step) ∧ Binds K fd ["memory", "letter"] [] := by
  obtain ⟨fd, F⟩ := Z.f_step
  refine ⟨fd, ?_, F.bindsN fun _ _ _ _ _ _ us hl => match us, hl with | [_, _], _ => rfl⟩
  exact fnI_of F sc_step Z.hK (fun cdv A outer s0 H E hcd hr => d_step Z  hr)
abbrev st_behind : Stmt := top 14
def N_behind : List Str := ["memory", "steps", "letter"]
theorem sc_behind : FnScope N_behind ["memory", "steps"] (defScope st_behind) := ⟨rfl, rfl, rfl, by decide +kernel, rfl, by decide +kernel, by decide +kernel⟩
theorem d_behind {P : Program} {w : World} {K : Frag} {mg : Str → Option Value} {base : Heap} {C : Cfg} (Z : Fx P w K mg base C) {fd_step : FuncData} (F_step : FnOk P w K mg base CX0 2 (He.ga K "step") fd_step ["memory", "letter"] (spI C 2 φ_step)) (B_step : Binds K fd_step ["memory", "letter"] [])  {cdv : Value} {A : Around} {outer : List Env} {s0 : Shared} {H : Hp} {E : XK} (hr : Room 2 (A.deeper (envOfC "behind" (defScope st_behind) s0.heap.objs.size (He.ga K "behind") (cdv)))) :
    PSs (cxOf CX0 P w K mg base N_behind "behind" (defScope st_behind) (He.ga K "behind") (cdv) A outer s0 H E).nox (defBody st_behind) (tS C s_behind) :=
  (css_cons (cs_for PassesOwn.never rfl (ci_any Z.hK (ce_var (pv 1))) (cg_name (pg_name (i := 2) sc_behind.nd rfl (by first | exact Or.inl rfl | exact Or.inr rfl))) (css_one (cs_name (fun q => ps_set (i := 0) sc_behind.nd rfl (by first | exact Or.inl rfl | exact Or.inr rfl) q) (ce_call (F_step.mono (by decide)) hr (by rfl) Z.m_step Z.k_step B_step (ca_cons (ce_var (pv 0)) (ca_cons (ce_var (pv 2)) ca_nil)) rfl))))
    (css_one (cs_ret (ce_var (pv 0)))))
theorem c_behind {P : Program} {w : World} {K : Frag} {mg : Str → Option Value} {base : Heap} {C : Cfg} (Z : Fx P w K mg base C) : ∃ fd, FnOk P w K mg base CX0 3 (He.ga K "behind") fd ["memory", "steps"] (spI C 2 φ_behind) ∧ Binds K fd ["memory", "steps"] [] := by
  obtain ⟨fd, F⟩ := Z.f_behind
  obtain ⟨fd_step, F_step, B_step⟩ := c_step (P := P) (w := w) Z
  refine ⟨fd, ?_, F.bindsN fun _ _ _ _ _ _ us hl => match us, hl with | [_, _], _ => rfl⟩
  exact fnI_of F sc_behind Z.hK (fun cdv A outer s0 H E hcd hr => d_behind Z F_step B_step hr)
abbrev st_place : Stmt := top 28
def N_place : List Str := ["memory", "sign", "number", "found", "at", "one"]
theorem sc_place : FnScope N_place ["memory", "sign", "number"] (defScope st_place) := ⟨rfl, rfl, rfl, by decide +kernel, rfl, by decide +kernel, by decide +kernel⟩
theorem d_place {P : Program} {w : World} {K : Frag} {mg : Str → Option Value} {base : Heap} {C : Cfg} (Z : Fx P w K mg base C)   {cdv : Value} {A : Around} {outer : List Env} {s0 : Shared} {H : Hp} {E : XK} (hr : Room 1 (A.deeper (envOfC "place" (defScope st_place) s0.heap.objs.size (He.ga K "place") (cdv)))) :
    PSs (cxOf CX0 P w K mg base N_place "place" (defScope st_place) (He.ga K "place") (cdv) A outer s0 H E).nox (defBody st_place) (tS C s_place) :=
  (css_cons (cs_setLc (own := [("at", 4), ("one", 5)]) rfl sc_place.nd rfl rfl (by rfl) (ci_enum (by rfl) Z.g_enumerate (ce_var (pv 0))) (blkE (N2 := N_place) (sc2 := defScope st_place) rfl rfl ⟨rfl, by decide +kernel, by decide +kernel, by decide +kernel, by decide +kernel⟩) (fun _ _ _ _ _ => (cg_tup rfl Z.hK (cgs_cons (cg_name (pg_name (i := 4) sc_place.nd rfl (by first | exact Or.inl rfl | exact Or.inr rfl))) (cgs_cons (cg_name (pg_name (i := 5) sc_place.nd rfl (by first | exact Or.inl rfl | exact Or.inr rfl))) cgs_nil)) rfl)) (fun _ _ _ _ _ => (cts_one (ct_cmp (op_eqA hr.units) (eqF_ok Z.hK) eqF_two eqF_boo (ce_var (pv 5)) (ce_var (pv 1)) (by rfl)))) (fun _ _ _ _ _ => (ce_var (pv 4))) (by decide))
    (css_one (cs_ret (ce_ite (ct_cmp (op_leG hr.units) (leG_ok Z.hK) cmpG_two cmpG_boo (ce_var (pv 2)) (ce_callB call_lenA (lenA_ok Z.hK) (by rfl) Z.g_len (by decide +kernel) (ca_cons (ce_var (pv 3)) ca_nil)) (by rfl)) (ce_ix (ix_A (hu1 hr)) (ixA_ok Z.hK) ixA_two (ce_var (pv 3)) (ce_bin op_sub subF_ok subF_two (ce_var (pv 2)) ce_int) (fun _ _ => rfl)) (ce_callB call_lenA (lenA_ok Z.hK) (by rfl) Z.g_len (by decide +kernel) (ca_cons (ce_var (pv 0)) ca_nil))))))
theorem c_place {P : Program} {w : World} {K : Frag} {mg : Str → Option Value} {base : Heap} {C : Cfg} (Z : Fx P w K mg base C) : ∃ fd, FnOk P w K mg base CX0 2 (He.ga K "place") fd ["memory", "sign", "number"] (spI C 3 φ_place) ∧ Binds K fd ["memory", "sign", "number"] [] := by
  obtain ⟨fd, F⟩ := Z.f_place
  refine ⟨fd, ?_, F.bindsN fun _ _ _ _ _ _ us hl => match us, hl with | [_, _, _], _ => rfl⟩
  exact fnI_of F sc_place Z.hK (fun cdv A outer s0 H E hcd hr => d_place Z  hr)
abbrev st_holds : Stmt := top 29
def N_holds : List Str := ["memory", "relay", "high", "low"]
theorem sc_holds : FnScope N_holds ["memory", "relay"] (defScope st_holds) := ⟨rfl, rfl, rfl, by decide +kernel, rfl, by decide +kernel, by decide +kernel⟩
theorem d_holds {P : Program} {w : World} {K : Frag} {mg : Str → Option Value} {base : Heap} {C : Cfg} (Z : Fx P w K mg base C) {fd_place : FuncData} (F_place : FnOk P w K mg base CX0 2 (He.ga K "place") fd_place ["memory", "sign", "number"] (spI C 3 φ_place)) (B_place : Binds K fd_place ["memory", "sign", "number"] [])  {cdv : Value} {A : Around} {outer : List Env} {s0 : Shared} {H : Hp} {E : XK} (hr : Room 2 (A.deeper (envOfC "holds" (defScope st_holds) s0.heap.objs.size (He.ga K "holds") (cdv)))) :
    PSs (cxOf CX0 P w K mg base N_holds "holds" (defScope st_holds) (He.ga K "holds") (cdv) A outer s0 H E).nox (defBody st_holds) (tS C s_holds) :=
  (css_cons (cs_asg (ce_var (pv 1)) (cg_tup rfl Z.hK (cgs_cons (cg_name (pg_name (i := 2) sc_holds.nd rfl (by first | exact Or.inl rfl | exact Or.inr rfl))) (cgs_cons (cg_name (pg_name (i := 3) sc_holds.nd rfl (by first | exact Or.inl rfl | exact Or.inr rfl))) cgs_nil)) rfl))
    (css_one (cs_ret (ce_cmp (op_ltG hr.units) (ltG_ok Z.hK) cmpG_two (ce_call (F_place.mono (by decide)) hr (by rfl) Z.m_place Z.k_place B_place (ca_cons (ce_var (pv 0)) (ca_cons (ce_str (by rfl)) (ca_cons (ce_bin op_addA (addF_ok Z.hK) addF_two (ce_var (pv 3)) ce_int) ca_nil))) rfl) (ce_call (F_place.mono (by decide)) hr (by rfl) Z.m_place Z.k_place B_place (ca_cons (ce_var (pv 0)) (ca_cons (ce_str (by rfl)) (ca_cons (ce_bin op_addA (addF_ok Z.hK) addF_two (ce_bin op_sub subF_ok subF_two (ce_callB call_lenA (lenA_ok Z.hK) (by rfl) Z.g_len (by decide +kernel) (ca_cons (ce_var (pv 0)) ca_nil)) (ce_var (pv 2))) ce_int) ca_nil))) rfl) (by rfl)))))
theorem c_holds {P : Program} {w : World} {K : Frag} {mg : Str → Option Value} {base : Heap} {C : Cfg} (Z : Fx P w K mg base C) : ∃ fd, FnOk P w K mg base CX0 3 (He.ga K "holds") fd ["memory", "relay"] (spI C 2 φ_holds) ∧ Binds K fd ["memory", "relay"] [] := by
  obtain ⟨fd, F⟩ := Z.f_holds
  obtain ⟨fd_place, F_place, B_place⟩ := c_place (P := P) (w := w) Z
  refine ⟨fd, ?_, F.bindsN fun _ _ _ _ _ _ us hl => match us, hl with | [_, _], _ => rfl⟩
  exact fnI_of F sc_holds Z.hK (fun cdv A outer s0 H E hcd hr => d_holds Z F_place B_place hr)
abbrev st_all_relays : Stmt := top 27
def N_all_relays : List Str := ["span", "high", "low"]
theorem sc_all_relays : FnScope N_all_relays ["span"] (defScope st_all_relays) := ⟨rfl, rfl, rfl, by decide +kernel, rfl, by decide +kernel, by decide +kernel⟩
theorem d_all_relays {P : Program} {w : World} {K : Frag} {mg : Str → Option Value} {base : Heap} {C : Cfg} (Z : Fx P w K mg base C)   {cdv : Value} {A : Around} {outer : List Env} {s0 : Shared} {H : Hp} {E : XK} (hr : Room 1 (A.deeper (envOfC "all_relays" (defScope st_all_relays) s0.heap.objs.size (He.ga K "all_relays") (cdv)))) :
    PSs (cxOf CX0 P w K mg base N_all_relays "all_relays" (defScope st_all_relays) (He.ga K "all_relays") (cdv) A outer s0 H E).nox (defBody st_all_relays) (tS C s_all_relays) :=
  (css_one (cs_ret (cf_lc2E (cf_lc2 (own := [("high", 1), ("low", 2)]) rfl sc_all_relays.nd (ci_range2 (by rfl) Z.g_range (ca_cons ce_int (ca_cons (ce_bin op_addA (addF_ok Z.hK) addF_two (ce_var (pv 0)) ce_int) ca_nil))) (blkE (N2 := N_all_relays) (sc2 := defScope st_all_relays) rfl rfl ⟨rfl, by decide +kernel, by decide +kernel, by decide +kernel, by decide +kernel⟩) (by decide) (fun _ _ _ _ _ => (cg_name (pg_name (i := 1) sc_all_relays.nd rfl (by first | exact Or.inl rfl | exact Or.inr rfl)))) (fun _ _ _ _ _ => cts_nil) (fun _ _ _ _ _ => (ci_range1 (by rfl) Z.g_range (ca_cons (ce_var (pv 1)) ca_nil))) (fun _ _ _ _ _ => (cg_name (pg_name (i := 2) sc_all_relays.nd rfl (by first | exact Or.inl rfl | exact Or.inr rfl)))) (fun _ _ _ _ _ => cts_nil) (fun _ _ _ _ _ => (ce_tup (ca_cons (ce_var (pv 1)) (ca_cons (ce_var (pv 2)) ca_nil)))) (by decide) (by decide)))))
theorem c_all_relays {P : Program} {w : World} {K : Frag} {mg : Str → Option Value} {base : Heap} {C : Cfg} (Z : Fx P w K mg base C) : ∃ fd, FnOk P w K mg base CX0 2 (He.ga K "all_relays") fd ["span"] (spI C 1 φ_all_relays) ∧ Binds K fd ["span"] [] := by
  obtain ⟨fd, F⟩ := Z.f_all_relays
  refine ⟨fd, ?_, F.bindsN fun _ _ _ _ _ _ us hl => match us, hl with | [_], _ => rfl⟩
  exact fnI_of F sc_all_relays Z.hK (fun cdv A outer s0 H E hcd hr => d_all_relays Z  hr)
abbrev st_row_of : Stmt := top 32
def N_row_of : List Str := ["span", "steps", "memory", "relay"]
theorem sc_row_of : FnScope N_row_of ["span", "steps"] (defScope st_row_of) := ⟨rfl, rfl, rfl, by decide +kernel, rfl, by decide +kernel, by decide +kernel⟩
theorem d_row_of {P : Program} {w : World} {K : Frag} {mg : Str → Option Value} {base : Heap} {C : Cfg} (Z : Fx P w K mg base C) {fd_behind : FuncData} (F_behind : FnOk P w K mg base CX0 3 (He.ga K "behind") fd_behind ["memory", "steps"] (spI C 2 φ_behind)) (B_behind : Binds K fd_behind ["memory", "steps"] []) {fd_holds : FuncData} (F_holds : FnOk P w K mg base CX0 3 (He.ga K "holds") fd_holds ["memory", "relay"] (spI C 2 φ_holds)) (B_holds : Binds K fd_holds ["memory", "relay"] []) {fd_all_relays : FuncData} (F_all_relays : FnOk P w K mg base CX0 2 (He.ga K "all_relays") fd_all_relays ["span"] (spI C 1 φ_all_relays)) (B_all_relays : Binds K fd_all_relays ["span"] [])  {cdv : Value} {A : Around} {outer : List Env} {s0 : Shared} {H : Hp} {E : XK} (hr : Room 3 (A.deeper (envOfC "row_of" (defScope st_row_of) s0.heap.objs.size (He.ga K "row_of") (cdv)))) :
    PSs (cxOf CX0 P w K mg base N_row_of "row_of" (defScope st_row_of) (He.ga K "row_of") (cdv) A outer s0 H E).nox (defBody st_row_of) (tS C s_row_of) :=
  (css_cons (cs_name (fun q => ps_set (i := 2) sc_row_of.nd rfl (by first | exact Or.inl rfl | exact Or.inr rfl) q) (ce_call (F_behind.mono (by decide)) hr (by rfl) Z.m_behind Z.k_behind B_behind (ca_cons (ce_bin op_mulWA mulWF_ok mulWF_two (ce_str (by rfl)) (ce_var (pv 0))) (ca_cons (ce_var (pv 1)) ca_nil)) rfl))
    (css_one (cs_ret (cf_lcE (cf_lc (own := [("relay", 3)]) rfl sc_row_of.nd (ci_any Z.hK (ce_call (F_all_relays.mono (by decide)) hr (by rfl) Z.m_all_relays Z.k_all_relays B_all_relays (ca_cons (ce_var (pv 0)) ca_nil) rfl)) (blkE (N2 := N_row_of) (sc2 := defScope st_row_of) rfl rfl ⟨rfl, by decide +kernel, by decide +kernel, by decide +kernel, by decide +kernel⟩) (fun _ _ _ _ _ => (cg_name (pg_name (i := 3) sc_row_of.nd rfl (by first | exact Or.inl rfl | exact Or.inr rfl)))) (fun _ _ _ _ _ => cts_nil) (fun _ _ _ _ _ => (ce_callTy call_int1 intF_ok (by rfl) Z.g_int (by decide +kernel) (ca_cons (ce_call (F_holds.mono (by decide)) hr (by rfl) Z.m_holds Z.k_holds B_holds (ca_cons (ce_var (pv 2)) (ca_cons (ce_var (pv 3)) ca_nil)) rfl) ca_nil))) (by decide))))))
theorem c_row_of {P : Program} {w : World} {K : Frag} {mg : Str → Option Value} {base : Heap} {C : Cfg} (Z : Fx P w K mg base C) : ∃ fd, FnOk P w K mg base CX0 4 (He.ga K "row_of") fd ["span", "steps"] (spI C 2 φ_row_of) ∧ Binds K fd ["span", "steps"] [] := by
  obtain ⟨fd, F⟩ := Z.f_row_of
  obtain ⟨fd_behind, F_behind, B_behind⟩ := c_behind (P := P) (w := w) Z
  obtain ⟨fd_holds, F_holds, B_holds⟩ := c_holds (P := P) (w := w) Z
  obtain ⟨fd_all_relays, F_all_relays, B_all_relays⟩ := c_all_relays (P := P) (w := w) Z
  refine ⟨fd, ?_, F.bindsN fun _ _ _ _ _ _ us hl => match us, hl with | [_, _], _ => rfl⟩
  exact fnI_of F sc_row_of Z.hK (fun cdv A outer s0 H E hcd hr => d_row_of Z F_behind B_behind F_holds B_holds F_all_relays B_all_relays hr)
abbrev st_basis_of : Stmt := top 40
def N_basis_of : List Str := ["span", "some", "found", "steps", "row", "one"]
theorem sc_basis_of : FnScope N_basis_of ["span", "some"] (defScope st_basis_of) := ⟨rfl, rfl, rfl, by decide +kernel, rfl, by decide +kernel, by decide +kernel⟩
theorem d_basis_of {P : Program} {w : World} {K : Frag} {mg : Str → Option Value} {base : Heap} {C : Cfg} (Z : Fx P w K mg base C) {fd_reduced_by_o : FuncData} (F_reduced_by_o : FnOk P w K mg base CX0 4 (He.ga K "reduced_by") fd_reduced_by_o ["rows", "row"] (spO C 2 φ_reduced_by_o)) (B_reduced_by_o : Binds K fd_reduced_by_o ["rows", "row"] []) {fd_lead : FuncData} (F_lead : FnOk P w K mg base CX0 2 (He.ga K "lead") fd_lead ["row"] (spI C 1 φ_lead)) (B_lead : Binds K fd_lead ["row"] []) {fd_row_of : FuncData} (F_row_of : FnOk P w K mg base CX0 4 (He.ga K "row_of") fd_row_of ["span", "steps"] (spI C 2 φ_row_of)) (B_row_of : Binds K fd_row_of ["span", "steps"] [])  {cdv : Value} {A : Around} {outer : List Env} {s0 : Shared} {H : Hp} {E : XK} (hr : Room 4 (A.deeper (envOfC "basis_of" (defScope st_basis_of) s0.heap.objs.size (He.ga K "basis_of") (cdv)))) :
    PSs (cxOf CX0 P w K mg base N_basis_of "basis_of" (defScope st_basis_of) (He.ga K "basis_of") (cdv) A outer s0 H E).nox (defBody st_basis_of) (tS C s_basis_of) :=
  (css_cons (cs_nameO (fun q => ps_set (i := 2) sc_basis_of.nd rfl (by first | exact Or.inl rfl | exact Or.inr rfl) q) (cf_lst ca_nil))
    (css_cons (cs_for PassesOwn.never rfl (ci_any Z.hK (ce_var (pv 1))) (cg_name (pg_name (i := 3) sc_basis_of.nd rfl (by first | exact Or.inl rfl | exact Or.inr rfl))) (css_cons (cs_name (fun q => ps_set (i := 4) sc_basis_of.nd rfl (by first | exact Or.inl rfl | exact Or.inr rfl) q) (ce_callO (F_reduced_by_o.mono (by decide)) hr (by rfl) Z.m_reduced_by Z.k_reduced_by B_reduced_by_o (pv 2) (ca_cons (cf_lcE (cf_lc (own := [("one", 5)]) rfl sc_basis_of.nd (ci_any Z.hK (ce_call (F_row_of.mono (by decide)) hr (by rfl) Z.m_row_of Z.k_row_of B_row_of (ca_cons (ce_var (pv 0)) (ca_cons (ce_var (pv 3)) ca_nil)) rfl)) (blkE (N2 := N_basis_of) (sc2 := defScope st_basis_of) rfl rfl ⟨rfl, by decide +kernel, by decide +kernel, by decide +kernel, by decide +kernel⟩) (fun _ _ _ _ _ => (cg_name (pg_name (i := 5) sc_basis_of.nd rfl (by first | exact Or.inl rfl | exact Or.inr rfl)))) (fun _ _ _ _ _ => cts_nil) (fun _ _ _ _ _ => (ce_tup (ca_cons (ce_var (pv 5)) (ca_cons ce_int ca_nil)))) (by decide))) ca_nil) rfl))
      (css_one (cs_if (ct_cmp op_notN notNF_ok notNF_two notNF_boo (ce_call (F_lead.mono (by decide)) hr (by rfl) Z.m_lead Z.k_lead B_lead (ca_cons (ce_var (pv 4)) ca_nil) rfl) ce_non (by rfl)) (css_one (cs_app (fun q => ps_expr (pe_bm PySem.F.plainAttrs_list PySem.F.slot_list_append PySem.F.type_list_append mt_append (pv 2) (pa_cons q pa_nil))) Z.hK (ce_var (pv 4)))) css_nil))))
    (css_one (cs_ret (ce_var (pv 2))))))
theorem c_basis_of {P : Program} {w : World} {K : Frag} {mg : Str → Option Value} {base : Heap} {C : Cfg} (Z : Fx P w K mg base C) : ∃ fd, FnOk P w K mg base CX0 5 (He.ga K "basis_of") fd ["span", "some"] (spI C 2 φ_basis_of) ∧ Binds K fd ["span", "some"] [] := by
  obtain ⟨fd, F⟩ := Z.f_basis_of
  obtain ⟨fd_reduced_by_o, F_reduced_by_o, B_reduced_by_o⟩ := c_reduced_by_o (P := P) (w := w) Z
  obtain ⟨fd_lead, F_lead, B_lead⟩ := c_lead (P := P) (w := w) Z
  obtain ⟨fd_row_of, F_row_of, B_row_of⟩ := c_row_of (P := P) (w := w) Z
  refine ⟨fd, ?_, F.bindsN fun _ _ _ _ _ _ us hl => match us, hl with | [_, _], _ => rfl⟩
  exact fnI_of F sc_basis_of Z.hK (fun cdv A outer s0 H E hcd hr => d_basis_of Z F_reduced_by_o B_reduced_by_o F_lead B_lead F_row_of B_row_of hr)
abbrev st_asked_rank : Stmt := top 41
def N_asked_rank : List Str := ["span", "some"]
theorem sc_asked_rank : FnScope N_asked_rank ["span", "some"] (defScope st_asked_rank) := ⟨rfl, rfl, rfl, by decide +kernel, rfl, by decide +kernel, by decide +kernel⟩
theorem d_asked_rank {P : Program} {w : World} {K : Frag} {mg : Str → Option Value} {base : Heap} {C : Cfg} (Z : Fx P w K mg base C) {fd_need_asked : FuncData} (F_need_asked : FnOk P w K mg base CX0 4 (He.ga K "need_asked") fd_need_asked ["span", "some"] (spI C 2 φ_need_asked)) (B_need_asked : Binds K fd_need_asked ["span", "some"] []) {fd_basis_of : FuncData} (F_basis_of : FnOk P w K mg base CX0 5 (He.ga K "basis_of") fd_basis_of ["span", "some"] (spI C 2 φ_basis_of)) (B_basis_of : Binds K fd_basis_of ["span", "some"] [])  {cdv : Value} {A : Around} {outer : List Env} {s0 : Shared} {H : Hp} {E : XK} (hr : Room 5 (A.deeper (envOfC "asked_rank" (defScope st_asked_rank) s0.heap.objs.size (He.ga K "asked_rank") (cdv)))) :
    PSs (cxOf CX0 P w K mg base N_asked_rank "asked_rank" (defScope st_asked_rank) (He.ga K "asked_rank") (cdv) A outer s0 H E).nox (defBody st_asked_rank) (tS C s_asked_rank) :=
  (css_cons (cs_exp (ce_call (F_need_asked.mono (by decide)) hr (by rfl) Z.m_need_asked Z.k_need_asked B_need_asked (ca_cons (ce_var (pv 0)) (ca_cons (ce_var (pv 1)) ca_nil)) rfl))
    (css_one (cs_ret (ce_callB call_lenA (lenA_ok Z.hK) (by rfl) Z.g_len (by decide +kernel) (ca_cons (ce_call (F_basis_of.mono (by decide)) hr (by rfl) Z.m_basis_of Z.k_basis_of B_basis_of (ca_cons (ce_var (pv 0)) (ca_cons (ce_var (pv 1)) ca_nil)) rfl) ca_nil)))))
theorem c_asked_rank {P : Program} {w : World} {K : Frag} {mg : Str → Option Value} {base : Heap} {C : Cfg} (Z : Fx P w K mg base C) : ∃ fd, FnOk P w K mg base CX0 6 (He.ga K "asked_rank") fd ["span", "some"] (spI C 2 φ_asked_rank) ∧ Binds K fd ["span", "some"] [] := by
  obtain ⟨fd, F⟩ := Z.f_asked_rank
  obtain ⟨fd_need_asked, F_need_asked, B_need_asked⟩ := c_need_asked (P := P) (w := w) Z
  obtain ⟨fd_basis_of, F_basis_of, B_basis_of⟩ := c_basis_of (P := P) (w := w) Z
  refine ⟨fd, ?_, F.bindsN fun _ _ _ _ _ _ us hl => match us, hl with | [_, _], _ => rfl⟩
  exact fnI_of F sc_asked_rank Z.hK (fun cdv A outer s0 H E hcd hr => d_asked_rank Z F_need_asked B_need_asked F_basis_of B_basis_of hr)
abbrev st_tells_all : Stmt := top 42
def N_tells_all : List Str := ["span", "some"]
theorem sc_tells_all : FnScope N_tells_all ["span", "some"] (defScope st_tells_all) := ⟨rfl, rfl, rfl, by decide +kernel, rfl, by decide +kernel, by decide +kernel⟩
theorem d_tells_all {P : Program} {w : World} {K : Frag} {mg : Str → Option Value} {base : Heap} {C : Cfg} (Z : Fx P w K mg base C) {fd_need_asked : FuncData} (F_need_asked : FnOk P w K mg base CX0 4 (He.ga K "need_asked") fd_need_asked ["span", "some"] (spI C 2 φ_need_asked)) (B_need_asked : Binds K fd_need_asked ["span", "some"] []) {fd_basis_of : FuncData} (F_basis_of : FnOk P w K mg base CX0 5 (He.ga K "basis_of") fd_basis_of ["span", "some"] (spI C 2 φ_basis_of)) (B_basis_of : Binds K fd_basis_of ["span", "some"] []) {fd_all_relays : FuncData} (F_all_relays : FnOk P w K mg base CX0 2 (He.ga K "all_relays") fd_all_relays ["span"] (spI C 1 φ_all_relays)) (B_all_relays : Binds K fd_all_relays ["span"] [])  {cdv : Value} {A : Around} {outer : List Env} {s0 : Shared} {H : Hp} {E : XK} (hr : Room 5 (A.deeper (envOfC "tells_all" (defScope st_tells_all) s0.heap.objs.size (He.ga K "tells_all") (cdv)))) :
    PSs (cxOf CX0 P w K mg base N_tells_all "tells_all" (defScope st_tells_all) (He.ga K "tells_all") (cdv) A outer s0 H E).nox (defBody st_tells_all) (tS C s_tells_all) :=
  (css_cons (cs_exp (ce_call (F_need_asked.mono (by decide)) hr (by rfl) Z.m_need_asked Z.k_need_asked B_need_asked (ca_cons (ce_var (pv 0)) (ca_cons (ce_var (pv 1)) ca_nil)) rfl))
    (css_one (cs_ret (ce_cmp (op_eqA hr.units) (eqF_ok Z.hK) eqF_two (ce_callB call_lenA (lenA_ok Z.hK) (by rfl) Z.g_len (by decide +kernel) (ca_cons (ce_call (F_basis_of.mono (by decide)) hr (by rfl) Z.m_basis_of Z.k_basis_of B_basis_of (ca_cons (ce_var (pv 0)) (ca_cons (ce_var (pv 1)) ca_nil)) rfl) ca_nil)) (ce_callB call_lenA (lenA_ok Z.hK) (by rfl) Z.g_len (by decide +kernel) (ca_cons (ce_call (F_all_relays.mono (by decide)) hr (by rfl) Z.m_all_relays Z.k_all_relays B_all_relays (ca_cons (ce_var (pv 0)) ca_nil) rfl) ca_nil)) (by rfl)))))
theorem c_tells_all {P : Program} {w : World} {K : Frag} {mg : Str → Option Value} {base : Heap} {C : Cfg} (Z : Fx P w K mg base C) : ∃ fd, FnOk P w K mg base CX0 6 (He.ga K "tells_all") fd ["span", "some"] (spI C 2 φ_tells_all) ∧ Binds K fd ["span", "some"] [] := by
  obtain ⟨fd, F⟩ := Z.f_tells_all
  obtain ⟨fd_need_asked, F_need_asked, B_need_asked⟩ := c_need_asked (P := P) (w := w) Z
  obtain ⟨fd_basis_of, F_basis_of, B_basis_of⟩ := c_basis_of (P := P) (w := w) Z
  obtain ⟨fd_all_relays, F_all_relays, B_all_relays⟩ := c_all_relays (P := P) (w := w) Z
  refine ⟨fd, ?_, F.bindsN fun _ _ _ _ _ _ us hl => match us, hl with | [_, _], _ => rfl⟩
  exact fnI_of F sc_tells_all Z.hK (fun cdv A outer s0 H E hcd hr => d_tells_all Z F_need_asked B_need_asked F_basis_of B_basis_of F_all_relays B_all_relays hr)
abbrev st_all_memories : Stmt := top 15
def N_all_memories : List Str := ["span", "found", "turn", "memory", "sign"]
theorem sc_all_memories : FnScope N_all_memories ["span"] (defScope st_all_memories) := ⟨rfl, rfl, rfl, by decide +kernel, rfl, by decide +kernel, by decide +kernel⟩
theorem d_all_memories {P : Program} {w : World} {K : Frag} {mg : Str → Option Value} {base : Heap} {C : Cfg} (Z : Fx P w K mg base C)   {cdv : Value} {A : Around} {outer : List Env} {s0 : Shared} {H : Hp} {E : XK} (hr : Room 1 (A.deeper (envOfC "all_memories" (defScope st_all_memories) s0.heap.objs.size (He.ga K "all_memories") (cdv)))) :
    PSs (cxOf CX0 P w K mg base N_all_memories "all_memories" (defScope st_all_memories) (He.ga K "all_memories") (cdv) A outer s0 H E).nox (defBody st_all_memories) (tS C s_all_memories) :=
  (css_cons (cs_name (fun q => ps_set (i := 1) sc_all_memories.nd rfl (by first | exact Or.inl rfl | exact Or.inr rfl) q) (ce_lst (ca_cons (ce_str (by rfl)) ca_nil)))
    (css_cons (cs_for PassesOwn.never rfl (ci_range1 (by rfl) Z.g_range (ca_cons (ce_var (pv 0)) ca_nil)) (cg_name (pg_name (i := 2) sc_all_memories.nd rfl (by first | exact Or.inl rfl | exact Or.inr rfl))) (css_one (cs_setLc2 (own := [("memory", 3), ("sign", 4)]) rfl sc_all_memories.nd rfl rfl (by rfl) (ci_any Z.hK (ce_var (pv 1))) (blkE (N2 := N_all_memories) (sc2 := defScope st_all_memories) rfl rfl ⟨rfl, by decide +kernel, by decide +kernel, by decide +kernel, by decide +kernel⟩) (by decide) (fun _ _ _ _ _ => (cg_name (pg_name (i := 3) sc_all_memories.nd rfl (by first | exact Or.inl rfl | exact Or.inr rfl)))) (fun _ _ _ _ _ => cts_nil) (fun _ _ _ _ _ => (ci_any Z.hK (ce_str (by rfl)))) (fun _ _ _ _ _ => (cg_name (pg_name (i := 4) sc_all_memories.nd rfl (by first | exact Or.inl rfl | exact Or.inr rfl)))) (fun _ _ _ _ _ => cts_nil) (fun _ _ _ _ _ => (ce_bin op_addA (addF_ok Z.hK) addF_two (ce_var (pv 3)) (ce_var (pv 4)))) (by decide) (by decide))))
    (css_one (cs_ret (ce_var (pv 1))))))
theorem c_all_memories {P : Program} {w : World} {K : Frag} {mg : Str → Option Value} {base : Heap} {C : Cfg} (Z : Fx P w K mg base C) : ∃ fd, FnOk P w K mg base CX0 2 (He.ga K "all_memories") fd ["span"] (spI C 1 φ_all_memories) ∧ Binds K fd ["span"] [] := by
  obtain ⟨fd, F⟩ := Z.f_all_memories
  refine ⟨fd, ?_, F.bindsN fun _ _ _ _ _ _ us hl => match us, hl with | [_], _ => rfl⟩
  exact fnI_of F sc_all_memories Z.hK (fun cdv A outer s0 H E hcd hr => d_all_memories Z  hr)
abbrev st_on_in : Stmt := top 30
def N_on_in : List Str := ["memory", "relay"]
theorem sc_on_in : FnScope N_on_in ["memory"] (defScope st_on_in) := ⟨rfl, rfl, rfl, by decide +kernel, rfl, by decide +kernel, by decide +kernel⟩
theorem d_on_in {P : Program} {w : World} {K : Frag} {mg : Str → Option Value} {base : Heap} {C : Cfg} (Z : Fx P w K mg base C) {fd_all_relays : FuncData} (F_all_relays : FnOk P w K mg base CX0 2 (He.ga K "all_relays") fd_all_relays ["span"] (spI C 1 φ_all_relays)) (B_all_relays : Binds K fd_all_relays ["span"] []) {fd_holds : FuncData} (F_holds : FnOk P w K mg base CX0 3 (He.ga K "holds") fd_holds ["memory", "relay"] (spI C 2 φ_holds)) (B_holds : Binds K fd_holds ["memory", "relay"] [])  {cdv : Value} {A : Around} {outer : List Env} {s0 : Shared} {H : Hp} {E : XK} (hr : Room 3 (A.deeper (envOfC "on_in" (defScope st_on_in) s0.heap.objs.size (He.ga K "on_in") (cdv)))) :
    PSs (cxOf CX0 P w K mg base N_on_in "on_in" (defScope st_on_in) (He.ga K "on_in") (cdv) A outer s0 H E).nox (defBody st_on_in) (tS C s_on_in) :=
  (css_one (cs_ret (cf_lcE (cf_lc (own := [("relay", 1)]) rfl sc_on_in.nd (ci_any Z.hK (ce_call (F_all_relays.mono (by decide)) hr (by rfl) Z.m_all_relays Z.k_all_relays B_all_relays (ca_cons (ce_callB call_lenA (lenA_ok Z.hK) (by rfl) Z.g_len (by decide +kernel) (ca_cons (ce_var (pv 0)) ca_nil)) ca_nil) rfl)) (blkE (N2 := N_on_in) (sc2 := defScope st_on_in) rfl rfl ⟨rfl, by decide +kernel, by decide +kernel, by decide +kernel, by decide +kernel⟩) (fun _ _ _ _ _ => (cg_name (pg_name (i := 1) sc_on_in.nd rfl (by first | exact Or.inl rfl | exact Or.inr rfl)))) (fun _ _ _ _ _ => (cts_one (ct_truth (ce_call (F_holds.mono (by decide)) hr (by rfl) Z.m_holds Z.k_holds B_holds (ca_cons (ce_var (pv 0)) (ca_cons (ce_var (pv 1)) ca_nil)) rfl) Z.hK (by intro _; rfl)))) (fun _ _ _ _ _ => (ce_var (pv 1))) (by decide)))))
theorem c_on_in {P : Program} {w : World} {K : Frag} {mg : Str → Option Value} {base : Heap} {C : Cfg} (Z : Fx P w K mg base C) : ∃ fd, FnOk P w K mg base CX0 4 (He.ga K "on_in") fd ["memory"] (spI C 1 φ_on_in) ∧ Binds K fd ["memory"] [] := by
  obtain ⟨fd, F⟩ := Z.f_on_in
  obtain ⟨fd_all_relays, F_all_relays, B_all_relays⟩ := c_all_relays (P := P) (w := w) Z
  obtain ⟨fd_holds, F_holds, B_holds⟩ := c_holds (P := P) (w := w) Z
  refine ⟨fd, ?_, F.bindsN fun _ _ _ _ _ _ us hl => match us, hl with | [_], _ => rfl⟩
  exact fnI_of F sc_on_in Z.hK (fun cdv A outer s0 H E hcd hr => d_on_in Z F_all_relays B_all_relays F_holds B_holds hr)
abbrev st_reduced_by : Stmt := top 39
def N_reduced_by : List Str := ["rows", "row", "one", "k", "part", "a", "b"]
theorem sc_reduced_by : FnScope N_reduced_by ["rows", "row"] (defScope st_reduced_by) := ⟨rfl, rfl, rfl, by decide +kernel, rfl, by decide +kernel, by decide +kernel⟩
theorem d_reduced_by {P : Program} {w : World} {K : Frag} {mg : Str → Option Value} {base : Heap} {C : Cfg} (Z : Fx P w K mg base C) {fd_lead : FuncData} (F_lead : FnOk P w K mg base CX0 2 (He.ga K "lead") fd_lead ["row"] (spI C 1 φ_lead)) (B_lead : Binds K fd_lead ["row"] []) {fd_over : FuncData} (F_over : FnOk P w K mg base CX0 3 (He.ga K "over") fd_over ["one", "other"] (spI C 2 φ_over)) (B_over : Binds K fd_over ["one", "other"] []) {fd_minus : FuncData} (F_minus : FnOk P w K mg base CX0 3 (He.ga K "minus") fd_minus ["one", "other"] (spI C 2 φ_minus)) (B_minus : Binds K fd_minus ["one", "other"] []) {fd_by : FuncData} (F_by : FnOk P w K mg base CX0 3 (He.ga K "by") fd_by ["one", "other"] (spI C 2 φ_by)) (B_by : Binds K fd_by ["one", "other"] [])  {cdv : Value} {A : Around} {outer : List Env} {s0 : Shared} {H : Hp} {E : XK} (hr : Room 3 (A.deeper (envOfC "reduced_by" (defScope st_reduced_by) s0.heap.objs.size (He.ga K "reduced_by") (cdv)))) :
    PSs (cxOf CX0 P w K mg base N_reduced_by "reduced_by" (defScope st_reduced_by) (He.ga K "reduced_by") (cdv) A outer s0 H E).nox (defBody st_reduced_by) (tS C s_reduced_by) :=
  (css_cons (cs_for PassesOwn.never rfl (ci_any Z.hK (ce_var (pv 0))) (cg_name (pg_name (i := 2) sc_reduced_by.nd rfl (by first | exact Or.inl rfl | exact Or.inr rfl))) (css_cons (cs_name (fun q => ps_set (i := 3) sc_reduced_by.nd rfl (by first | exact Or.inl rfl | exact Or.inr rfl) q) (ce_call (F_lead.mono (by decide)) hr (by rfl) Z.m_lead Z.k_lead B_lead (ca_cons (ce_var (pv 2)) ca_nil) rfl))
      (css_one (cs_if (ct_cmp (op_neA hr.units) (neF_ok Z.hK) neF_two neF_boo (ce_ix (ix_A (hu1 hr)) (ixA_ok Z.hK) ixA_two (ce_ix (ix_A (hu1 hr)) (ixA_ok Z.hK) ixA_two (ce_var (pv 1)) (ce_var (pv 3)) (fun _ _ => rfl)) ce_int (fun _ _ => rfl)) ce_int (by rfl)) (css_cons (cs_name (fun q => ps_set (i := 4) sc_reduced_by.nd rfl (by first | exact Or.inl rfl | exact Or.inr rfl) q) (ce_call (F_over.mono (by decide)) hr (by rfl) Z.m_over Z.k_over B_over (ca_cons (ce_ix (ix_A (hu1 hr)) (ixA_ok Z.hK) ixA_two (ce_var (pv 1)) (ce_var (pv 3)) (fun _ _ => rfl)) (ca_cons (ce_ix (ix_A (hu1 hr)) (ixA_ok Z.hK) ixA_two (ce_var (pv 2)) (ce_var (pv 3)) (fun _ _ => rfl)) ca_nil)) rfl))
        (css_one (cs_setLc (own := [("a", 5), ("b", 6)]) rfl sc_reduced_by.nd rfl rfl (by rfl) (ci_zip2 (by rfl) Z.g_zip (ca_cons (ce_var (pv 1)) (ca_cons (ce_var (pv 2)) ca_nil))) (blkE (N2 := N_reduced_by) (sc2 := defScope st_reduced_by) rfl rfl ⟨rfl, by decide +kernel, by decide +kernel, by decide +kernel, by decide +kernel⟩) (fun _ _ _ _ _ => (cg_tup rfl Z.hK (cgs_cons (cg_name (pg_name (i := 5) sc_reduced_by.nd rfl (by first | exact Or.inl rfl | exact Or.inr rfl))) (cgs_cons (cg_name (pg_name (i := 6) sc_reduced_by.nd rfl (by first | exact Or.inl rfl | exact Or.inr rfl))) cgs_nil)) rfl)) (fun _ _ _ _ _ => cts_nil) (fun _ _ _ _ _ => (ce_call (F_minus.mono (by decide)) hr (by rfl) Z.m_minus Z.k_minus B_minus (ca_cons (ce_var (pv 5)) (ca_cons (ce_call (F_by.mono (by decide)) hr (by rfl) Z.m_by Z.k_by B_by (ca_cons (ce_var (pv 4)) (ca_cons (ce_var (pv 6)) ca_nil)) rfl) ca_nil)) rfl)) (by decide)))) css_nil))))
    (css_one (cs_ret (ce_var (pv 1)))))
theorem c_reduced_by {P : Program} {w : World} {K : Frag} {mg : Str → Option Value} {base : Heap} {C : Cfg} (Z : Fx P w K mg base C) : ∃ fd, FnOk P w K mg base CX0 4 (He.ga K "reduced_by") fd ["rows", "row"] (spI C 2 φ_reduced_by) ∧ Binds K fd ["rows", "row"] [] := by
  obtain ⟨fd, F⟩ := Z.f_reduced_by
  obtain ⟨fd_lead, F_lead, B_lead⟩ := c_lead (P := P) (w := w) Z
  obtain ⟨fd_over, F_over, B_over⟩ := c_over (P := P) (w := w) Z
  obtain ⟨fd_minus, F_minus, B_minus⟩ := c_minus (P := P) (w := w) Z
  obtain ⟨fd_by, F_by, B_by⟩ := c_by (P := P) (w := w) Z
  refine ⟨fd, ?_, F.bindsN fun _ _ _ _ _ _ us hl => match us, hl with | [_, _], _ => rfl⟩
  exact fnI_of F sc_reduced_by Z.hK (fun cdv A outer s0 H E hcd hr => d_reduced_by Z F_lead B_lead F_over B_over F_minus B_minus F_by B_by hr)
abbrev st_way_from_all : Stmt := top 34
def N_way_from_all : List Str := ["sign", "memory", "letter", "other", "at"]
theorem sc_way_from_all : FnScope N_way_from_all ["sign", "memory"] (defScope st_way_from_all) := ⟨rfl, rfl, rfl, by decide +kernel, rfl, by decide +kernel, by decide +kernel⟩
theorem d_way_from_all {P : Program} {w : World} {K : Frag} {mg : Str → Option Value} {base : Heap} {C : Cfg} (Z : Fx P w K mg base C)   {fd : FuncData} (B : Binds K fd ["sign", "memory"] []) {φ : List D → Option D} {k : Nat} (hk : 1 ≤ k) (ih : FnOk P w K mg base CX0 k (He.ga K "way_from_all") fd ["sign", "memory"] (spI C 2 φ)) {cdv : Value} {A : Around} {outer : List Env} {s0 : Shared} {H : Hp} {E : XK} (hr : Room k (A.deeper (envOfC "way_from_all" (defScope st_way_from_all) s0.heap.objs.size (He.ga K "way_from_all") (cdv)))) :
    PSs (cxOf CX0 P w K mg base N_way_from_all "way_from_all" (defScope st_way_from_all) (He.ga K "way_from_all") (cdv) A outer s0 H E).nox (defBody st_way_from_all) (tS C (s_way_from_all φ)) :=
  (css_cons (cs_name (fun q => ps_set (i := 2) sc_way_from_all.nd rfl (by first | exact Or.inl rfl | exact Or.inr rfl) q) (ce_ite (ct_cmp (op_eqA hr.units) (eqF_ok Z.hK) eqF_two eqF_boo (ce_var (pv 0)) (ce_str (by rfl)) (by rfl)) (ce_str (by rfl)) (ce_str (by rfl))))
    (css_cons (cs_name (fun q => ps_set (i := 3) sc_way_from_all.nd rfl (by first | exact Or.inl rfl | exact Or.inr rfl) q) (ce_ite (ct_cmp (op_eqA hr.units) (eqF_ok Z.hK) eqF_two eqF_boo (ce_var (pv 0)) (ce_str (by rfl)) (by rfl)) (ce_str (by rfl)) (ce_str (by rfl))))
    (css_cons (cs_name (fun q => ps_set (i := 4) sc_way_from_all.nd rfl (by first | exact Or.inl rfl | exact Or.inr rfl) q) (ce_strm findF_ok findF_str (fun q qa => pe_bm PySem.F.plainAttrs_str PySem.F.slot_str_find PySem.F.type_str_find mt_find q qa) (ce_var (pv 1)) (ca_cons (ce_var (pv 3)) ca_nil)))
    (css_cons (cs_if (ct_cmp (op_ltG hr.units) (ltG_ok Z.hK) cmpG_two cmpG_boo (ce_var (pv 4)) ce_int (by rfl)) (css_one (cs_ret (ce_str (by rfl)))) css_nil)
    (css_one (cs_ret (ce_bin op_addA (addF_ok Z.hK) addF_two (ce_bin op_mulWA mulWF_ok mulWF_two (ce_var (pv 2)) (ce_bin op_sub subF_ok subF_two (ce_callB call_lenA (lenA_ok Z.hK) (by rfl) Z.g_len (by decide +kernel) (ca_cons (ce_var (pv 1)) ca_nil)) (ce_var (pv 4)))) (ce_call ih hr (by rfl) Z.m_way_from_all Z.k_way_from_all B (ca_cons (ce_var (pv 3)) (ca_cons (ce_sl1 Z.hK (ce_var (pv 1)) (ce_bin op_addA (addF_ok Z.hK) addF_two (ce_var (pv 4)) ce_int)) ca_nil)) rfl))))))))
theorem c_way_from_all {P : Program} {w : World} {K : Frag} {mg : Str → Option Value} {base : Heap} {C : Cfg} (Z : Fx P w K mg base C) : ∃ fd, FnOk P w K mg base CX0 10 (He.ga K "way_from_all") fd ["sign", "memory"] (spI C 2 (φ_way_from_all 8)) ∧ Binds K fd ["sign", "memory"] [] := by
  obtain ⟨fd, F⟩ := Z.f_way_from_all
  have B : Binds K fd ["sign", "memory"] [] := F.bindsN fun _ _ _ _ _ _ us hl => match us, hl with | [_, _], _ => rfl
  refine ⟨fd, ?_, B⟩
  have key : ∀ t : Nat, FnOk P w K mg base CX0 (1 + t) (He.ga K "way_from_all") fd ["sign", "memory"] (spI C 2 (φ_way_from_all t)) := fun t => by
    induction t with
    | zero => exact fnI_none
    | succ t ih => exact fnI_of F sc_way_from_all Z.hK fun cdv A outer s0 H E hcd hr => d_way_from_all Z  B (by omega) ih hr
  exact (key 8).mono (by decide)
abbrev st_way_of : Stmt := top 35
def N_way_of : List Str := ["one", "other", "at", "sign", "letter", "old", "k"]
theorem sc_way_of : FnScope N_way_of ["one", "other"] (defScope st_way_of) := ⟨rfl, rfl, rfl, by decide +kernel, rfl, by decide +kernel, by decide +kernel⟩
theorem d_way_of {P : Program} {w : World} {K : Frag} {mg : Str → Option Value} {base : Heap} {C : Cfg} (Z : Fx P w K mg base C) {fd_way_from_all : FuncData} (F_way_from_all : FnOk P w K mg base CX0 10 (He.ga K "way_from_all") fd_way_from_all ["sign", "memory"] (spI C 2 (φ_way_from_all 8))) (B_way_from_all : Binds K fd_way_from_all ["sign", "memory"] [])  {cdv : Value} {A : Around} {outer : List Env} {s0 : Shared} {H : Hp} {E : XK} (hr : Room 10 (A.deeper (envOfC "way_of" (defScope st_way_of) s0.heap.objs.size (He.ga K "way_of") (cdv)))) :
    PSs (cxOf CX0 P w K mg base N_way_of "way_of" (defScope st_way_of) (He.ga K "way_of") (cdv) A outer s0 H E).nox (defBody st_way_of) (tS C s_way_of) :=
  (css_cons (cs_if (ct_cmp (op_eqA hr.units) (eqF_ok Z.hK) eqF_two eqF_boo (ce_var (pv 0)) (ce_var (pv 1)) (by rfl)) (css_one (cs_ret (ce_str (by rfl)))) css_nil)
    (css_cons (cs_name (fun q => ps_set (i := 2) sc_way_of.nd rfl (by first | exact Or.inl rfl | exact Or.inr rfl) q) (ce_ix (ix_A (hu1 hr)) (ixA_ok Z.hK) ixA_two (cf_lcE (cf_lc (own := [("k", 6)]) rfl sc_way_of.nd (ci_range1 (by rfl) Z.g_range (ca_cons (ce_callB call_lenA (lenA_ok Z.hK) (by rfl) Z.g_len (by decide +kernel) (ca_cons (ce_var (pv 0)) ca_nil)) ca_nil)) (blkE (N2 := N_way_of) (sc2 := defScope st_way_of) rfl rfl ⟨rfl, by decide +kernel, by decide +kernel, by decide +kernel, by decide +kernel⟩) (fun _ _ _ _ _ => (cg_name (pg_name (i := 6) sc_way_of.nd rfl (by first | exact Or.inl rfl | exact Or.inr rfl)))) (fun _ _ _ _ _ => (cts_one (ct_cmp (op_neA hr.units) (neF_ok Z.hK) neF_two neF_boo (ce_ix (ix_A (hu1 hr)) (ixA_ok Z.hK) ixA_two (ce_var (pv 0)) (ce_var (pv 6)) (fun _ _ => rfl)) (ce_ix (ix_A (hu1 hr)) (ixA_ok Z.hK) ixA_two (ce_var (pv 1)) (ce_var (pv 6)) (fun _ _ => rfl)) (by rfl)))) (fun _ _ _ _ _ => (ce_var (pv 6))) (by decide))) ce_int (fun _ _ => rfl)))
    (css_cons (cs_name (fun q => ps_set (i := 3) sc_way_of.nd rfl (by first | exact Or.inl rfl | exact Or.inr rfl) q) (ce_ix (ix_A (hu1 hr)) (ixA_ok Z.hK) ixA_two (ce_var (pv 1)) (ce_var (pv 2)) (fun _ _ => rfl)))
    (css_cons (cs_asg (ce_ite (ct_cmp (op_eqA hr.units) (eqF_ok Z.hK) eqF_two eqF_boo (ce_var (pv 3)) (ce_str (by rfl)) (by rfl)) (ce_tup (ca_cons (ce_str (by rfl)) (ca_cons (ce_str (by rfl)) ca_nil))) (ce_tup (ca_cons (ce_str (by rfl)) (ca_cons (ce_str (by rfl)) ca_nil)))) (cg_tup rfl Z.hK (cgs_cons (cg_name (pg_name (i := 4) sc_way_of.nd rfl (by first | exact Or.inl rfl | exact Or.inr rfl))) (cgs_cons (cg_name (pg_name (i := 5) sc_way_of.nd rfl (by first | exact Or.inl rfl | exact Or.inr rfl))) cgs_nil)) rfl))
    (css_one (cs_ret (ce_bin op_addA (addF_ok Z.hK) addF_two (ce_bin op_mulWA mulWF_ok mulWF_two (ce_var (pv 4)) (ce_strm countF_ok countF_str (fun q qa => pe_bm PySem.F.plainAttrs_str PySem.F.slot_str_count PySem.F.type_str_count mt_count q qa) (ce_sl1 Z.hK (ce_var (pv 0)) (ce_var (pv 2))) (ca_cons (ce_var (pv 5)) ca_nil))) (ce_call (F_way_from_all.mono (by decide)) hr (by rfl) Z.m_way_from_all Z.k_way_from_all B_way_from_all (ca_cons (ce_var (pv 3)) (ca_cons (ce_sl1 Z.hK (ce_var (pv 1)) (ce_bin op_addA (addF_ok Z.hK) addF_two (ce_var (pv 2)) ce_int)) ca_nil)) rfl))))))))
theorem c_way_of {P : Program} {w : World} {K : Frag} {mg : Str → Option Value} {base : Heap} {C : Cfg} (Z : Fx P w K mg base C) : ∃ fd, FnOk P w K mg base CX0 11 (He.ga K "way_of") fd ["one", "other"] (spI C 2 φ_way_of) ∧ Binds K fd ["one", "other"] [] := by
  obtain ⟨fd, F⟩ := Z.f_way_of
  obtain ⟨fd_way_from_all, F_way_from_all, B_way_from_all⟩ := c_way_from_all (P := P) (w := w) Z
  refine ⟨fd, ?_, F.bindsN fun _ _ _ _ _ _ us hl => match us, hl with | [_, _], _ => rfl⟩
  exact fnI_of F sc_way_of Z.hK (fun cdv A outer s0 H E hcd hr => d_way_of Z F_way_from_all B_way_from_all hr)
abbrev st_next_asking : Stmt := top 43
def N_next_asking : List Str := ["span", "some", "basis", "found", "memory", "on", "row", "word", "relay"]
theorem sc_next_asking : FnScope N_next_asking ["span", "some"] (defScope st_next_asking) := ⟨rfl, rfl, rfl, by decide +kernel, rfl, by decide +kernel, by decide +kernel⟩
theorem d_next_asking {P : Program} {w : World} {K : Frag} {mg : Str → Option Value} {base : Heap} {C : Cfg} (Z : Fx P w K mg base C) {fd_need_asked : FuncData} (F_need_asked : FnOk P w K mg base CX0 4 (He.ga K "need_asked") fd_need_asked ["span", "some"] (spI C 2 φ_need_asked)) (B_need_asked : Binds K fd_need_asked ["span", "some"] []) {fd_all_memories : FuncData} (F_all_memories : FnOk P w K mg base CX0 2 (He.ga K "all_memories") fd_all_memories ["span"] (spI C 1 φ_all_memories)) (B_all_memories : Binds K fd_all_memories ["span"] []) {fd_basis_of : FuncData} (F_basis_of : FnOk P w K mg base CX0 5 (He.ga K "basis_of") fd_basis_of ["span", "some"] (spI C 2 φ_basis_of)) (B_basis_of : Binds K fd_basis_of ["span", "some"] []) {fd_on_in : FuncData} (F_on_in : FnOk P w K mg base CX0 4 (He.ga K "on_in") fd_on_in ["memory"] (spI C 1 φ_on_in)) (B_on_in : Binds K fd_on_in ["memory"] []) {fd_reduced_by : FuncData} (F_reduced_by : FnOk P w K mg base CX0 4 (He.ga K "reduced_by") fd_reduced_by ["rows", "row"] (spI C 2 φ_reduced_by)) (B_reduced_by : Binds K fd_reduced_by ["rows", "row"] []) {fd_lead : FuncData} (F_lead : FnOk P w K mg base CX0 2 (He.ga K "lead") fd_lead ["row"] (spI C 1 φ_lead)) (B_lead : Binds K fd_lead ["row"] []) {fd_way_of : FuncData} (F_way_of : FnOk P w K mg base CX0 11 (He.ga K "way_of") fd_way_of ["one", "other"] (spI C 2 φ_way_of)) (B_way_of : Binds K fd_way_of ["one", "other"] []) {fd_all_relays : FuncData} (F_all_relays : FnOk P w K mg base CX0 2 (He.ga K "all_relays") fd_all_relays ["span"] (spI C 1 φ_all_relays)) (B_all_relays : Binds K fd_all_relays ["span"] [])  {cdv : Value} {A : Around} {outer : List Env} {s0 : Shared} {H : Hp} {E : XK} (hr : Room 11 (A.deeper (envOfC "next_asking" (defScope st_next_asking) s0.heap.objs.size (He.ga K "next_asking") (cdv)))) :
    PSs (cxOf CX0 P w K mg base N_next_asking "next_asking" (defScope st_next_asking) (He.ga K "next_asking") (cdv) A outer s0 H E).nox (defBody st_next_asking) (tS C s_next_asking) :=
  (css_cons (cs_exp (ce_call (F_need_asked.mono (by decide)) hr (by rfl) Z.m_need_asked Z.k_need_asked B_need_asked (ca_cons (ce_var (pv 0)) (ca_cons (ce_var (pv 1)) ca_nil)) rfl))
    (css_cons (cs_parO2 (i := 2) (j := 3) rfl sc_next_asking.nd rfl rfl (by decide) rfl rfl rfl (cp_keep (ce_call (F_basis_of.mono (by decide)) hr (by rfl) Z.m_basis_of Z.k_basis_of B_basis_of (ca_cons (ce_var (pv 0)) (ca_cons (ce_var (pv 1)) ca_nil)) rfl) (cp_own (cf_lst ca_nil) cp_nil)) (by rfl))
    (css_cons (cs_for PassesOwn.never rfl (ci_any Z.hK (ce_call (F_all_memories.mono (by decide)) hr (by rfl) Z.m_all_memories Z.k_all_memories B_all_memories (ca_cons (ce_var (pv 0)) ca_nil) rfl)) (cg_name (pg_name (i := 4) sc_next_asking.nd rfl (by first | exact Or.inl rfl | exact Or.inr rfl))) (css_cons (cs_name (fun q => ps_set (i := 5) sc_next_asking.nd rfl (by first | exact Or.inl rfl | exact Or.inr rfl) q) (ce_call (F_on_in.mono (by decide)) hr (by rfl) Z.m_on_in Z.k_on_in B_on_in (ca_cons (ce_var (pv 4)) ca_nil) rfl))
      (css_cons (cs_name (fun q => ps_set (i := 6) sc_next_asking.nd rfl (by first | exact Or.inl rfl | exact Or.inr rfl) q) (ce_call (F_reduced_by.mono (by decide)) hr (by rfl) Z.m_reduced_by Z.k_reduced_by B_reduced_by (ca_cons (ce_var (pv 2)) (ca_cons (cf_lcE (cf_lc (own := [("relay", 8)]) rfl sc_next_asking.nd (ci_any Z.hK (ce_call (F_all_relays.mono (by decide)) hr (by rfl) Z.m_all_relays Z.k_all_relays B_all_relays (ca_cons (ce_var (pv 0)) ca_nil) rfl)) (blkE (N2 := N_next_asking) (sc2 := defScope st_next_asking) rfl rfl ⟨rfl, by decide +kernel, by decide +kernel, by decide +kernel, by decide +kernel⟩) (fun _ _ _ _ _ => (cg_name (pg_name (i := 8) sc_next_asking.nd rfl (by first | exact Or.inl rfl | exact Or.inr rfl)))) (fun _ _ _ _ _ => cts_nil) (fun _ _ _ _ _ => (ce_tup (ca_cons (ce_ite (ct_cmp (op_inE (hu65 hr)) (memB_ok Z.hK) memB_two memB_boo (ce_var (pv 8)) (ce_var (pv 5)) (by rfl)) ce_int ce_int) (ca_cons ce_int ca_nil)))) (by decide))) ca_nil)) rfl))
      (css_one (cs_if (ct_cmp op_notN notNF_ok notNF_two notNF_boo (ce_call (F_lead.mono (by decide)) hr (by rfl) Z.m_lead Z.k_lead B_lead (ca_cons (ce_var (pv 6)) ca_nil) rfl) ce_non (by rfl)) (css_cons (cs_name (fun q => ps_set (i := 7) sc_next_asking.nd rfl (by first | exact Or.inl rfl | exact Or.inr rfl) q) (ce_call (F_way_of.mono (by decide)) hr (by rfl) Z.m_way_of Z.k_way_of B_way_of (ca_cons (ce_bin op_mulWA mulWF_ok mulWF_two (ce_str (by rfl)) (ce_var (pv 0))) (ca_cons (ce_var (pv 4)) ca_nil)) rfl))
        (css_one (cs_app (fun q => ps_expr (pe_bm PySem.F.plainAttrs_list PySem.F.slot_list_append PySem.F.type_list_append mt_append (pv 3) (pa_cons q pa_nil))) Z.hK (ce_tup (ca_cons (ce_callB call_lenA (lenA_ok Z.hK) (by rfl) Z.g_len (by decide +kernel) (ca_cons (ce_var (pv 7)) ca_nil)) (ca_cons (ce_var (pv 7)) ca_nil)))))) css_nil)))))
    (css_one (cs_ret (ce_ite (ct_truth (ce_var (pv 3)) Z.hK (by intro _; rfl)) (ce_ix (ix_A (hu1 hr)) (ixA_ok Z.hK) ixA_two (ce_callB (cr_minA rfl (hu100 hr)) (minAF_ok Z.hK) (by rfl) Z.g_min (by decide +kernel) (ca_cons (ce_var (pv 3)) ca_nil)) ce_int (fun _ _ => rfl)) ce_non))))))
theorem c_next_asking {P : Program} {w : World} {K : Frag} {mg : Str → Option Value} {base : Heap} {C : Cfg} (Z : Fx P w K mg base C) : ∃ fd, FnOk P w K mg base CX0 12 (He.ga K "next_asking") fd ["span", "some"] (spI C 2 φ_next_asking) ∧ Binds K fd ["span", "some"] [] := by
  obtain ⟨fd, F⟩ := Z.f_next_asking
  obtain ⟨fd_need_asked, F_need_asked, B_need_asked⟩ := c_need_asked (P := P) (w := w) Z
  obtain ⟨fd_all_memories, F_all_memories, B_all_memories⟩ := c_all_memories (P := P) (w := w) Z
  obtain ⟨fd_basis_of, F_basis_of, B_basis_of⟩ := c_basis_of (P := P) (w := w) Z
  obtain ⟨fd_on_in, F_on_in, B_on_in⟩ := c_on_in (P := P) (w := w) Z
  obtain ⟨fd_reduced_by, F_reduced_by, B_reduced_by⟩ := c_reduced_by (P := P) (w := w) Z
  obtain ⟨fd_lead, F_lead, B_lead⟩ := c_lead (P := P) (w := w) Z
  obtain ⟨fd_way_of, F_way_of, B_way_of⟩ := c_way_of (P := P) (w := w) Z
  obtain ⟨fd_all_relays, F_all_relays, B_all_relays⟩ := c_all_relays (P := P) (w := w) Z
  refine ⟨fd, ?_, F.bindsN fun _ _ _ _ _ _ us hl => match us, hl with | [_, _], _ => rfl⟩
  exact fnI_of F sc_next_asking Z.hK (fun cdv A outer s0 H E hcd hr => d_next_asking Z F_need_asked B_need_asked F_all_memories B_all_memories F_basis_of B_basis_of F_on_in B_on_in F_reduced_by B_reduced_by F_lead B_lead F_way_of B_way_of F_all_relays B_all_relays hr)
abbrev st__law_pick : Stmt := top 46
def N__law_pick : List Str := ["_law_row", "_law_things"]
theorem sc__law_pick : FnScope N__law_pick ["_law_row", "_law_things"] (defScope st__law_pick) := ⟨rfl, rfl, rfl, by decide +kernel, rfl, by decide +kernel, by decide +kernel⟩
theorem d__law_pick {P : Program} {w : World} {K : Frag} {mg : Str → Option Value} {base : Heap} {C : Cfg} (Z : Fx P w K mg base C) {fd__law_taken : FuncData} (F__law_taken : FnOk P w K mg base CX0 2 (He.ga K "_law_taken") fd__law_taken ["_law_row", "_law_many"] (spO C 2 φ__law_taken)) (B__law_taken : Binds K fd__law_taken ["_law_row", "_law_many"] [])  {cdv : Value} {A : Around} {outer : List Env} {s0 : Shared} {H : Hp} {E : XK} (hr : Room 2 (A.deeper (envOfC "_law_pick" (defScope st__law_pick) s0.heap.objs.size (He.ga K "_law_pick") (cdv)))) :
    PSs (cxOf CX0 P w K mg base N__law_pick "_law_pick" (defScope st__law_pick) (He.ga K "_law_pick") (cdv) A outer s0 H E).nox (defBody st__law_pick) (tS C s__law_pick) :=
  (css_one (cs_ret (ce_ix (ix_A (hu1 hr)) (ixA_ok Z.hK) ixA_two (ce_var (pv 1)) (ce_callO (F__law_taken.mono (by decide)) hr (by rfl) Z.m__law_taken Z.k__law_taken B__law_taken (pv 0) (ca_cons (ce_callB call_lenA (lenA_ok Z.hK) (by rfl) Z.g_len (by decide +kernel) (ca_cons (ce_var (pv 1)) ca_nil)) ca_nil) rfl) (fun _ _ => rfl))))
theorem c__law_pick {P : Program} {w : World} {K : Frag} {mg : Str → Option Value} {base : Heap} {C : Cfg} (Z : Fx P w K mg base C) : ∃ fd, FnOk P w K mg base CX0 3 (He.ga K "_law_pick") fd ["_law_row", "_law_things"] (spO C 2 φ__law_pick) ∧ Binds K fd ["_law_row", "_law_things"] [] := by
  obtain ⟨fd, F⟩ := Z.f__law_pick
  obtain ⟨fd__law_taken, F__law_taken, B__law_taken⟩ := c__law_taken (P := P) (w := w) Z
  refine ⟨fd, ?_, F.bindsN fun _ _ _ _ _ _ us hl => match us, hl with | [_, _], _ => rfl⟩
  exact fnO_of F sc__law_pick Z.hK (fun cdv A outer s0 H E hcd hr => d__law_pick Z F__law_taken B__law_taken hr)
abbrev st__law_steps : Stmt := top 52
def N__law_steps : List Str := ["_law_row", "_law_letter", "_law_found", "_law_turn"]
theorem sc__law_steps : FnScope N__law_steps ["_law_row"] (defScope st__law_steps) := ⟨rfl, rfl, rfl, by decide +kernel, rfl, by decide +kernel, by decide +kernel⟩
theorem d__law_steps {P : Program} {w : World} {K : Frag} {mg : Str → Option Value} {base : Heap} {C : Cfg} (Z : Fx P w K mg base C) {fd__law_pick : FuncData} (F__law_pick : FnOk P w K mg base CX0 3 (He.ga K "_law_pick") fd__law_pick ["_law_row", "_law_things"] (spO C 2 φ__law_pick)) (B__law_pick : Binds K fd__law_pick ["_law_row", "_law_things"] []) {fd__law_taken : FuncData} (F__law_taken : FnOk P w K mg base CX0 2 (He.ga K "_law_taken") fd__law_taken ["_law_row", "_law_many"] (spO C 2 φ__law_taken)) (B__law_taken : Binds K fd__law_taken ["_law_row", "_law_many"] [])  {cdv : Value} {A : Around} {outer : List Env} {s0 : Shared} {H : Hp} {E : XK} (hr : Room 3 (A.deeper (envOfC "_law_steps" (defScope st__law_steps) s0.heap.objs.size (He.ga K "_law_steps") (cdv)))) :
    PSs (cxOf CX0 P w K mg base N__law_steps "_law_steps" (defScope st__law_steps) (He.ga K "_law_steps") (cdv) A outer s0 H E).nox (defBody st__law_steps) (tS C s__law_steps) :=
  (css_cons (cs_par (i := 1) (j := 2) rfl sc__law_steps.nd rfl rfl (by decide) rfl rfl (ca_cons (ce_callO (F__law_pick.mono (by decide)) hr (by rfl) Z.m__law_pick Z.k__law_pick B__law_pick (pv 0) (ca_cons (ce_str (by rfl)) ca_nil) rfl) (ca_cons (ce_str (by rfl)) ca_nil)) (by rfl))
    (css_cons (cs_for PassesOwn.never rfl (ci_range1 (by rfl) Z.g_range (ca_cons (ce_callO (F__law_taken.mono (by decide)) hr (by rfl) Z.m__law_taken Z.k__law_taken B__law_taken (pv 0) (ca_cons ce_int ca_nil) rfl) ca_nil)) (cg_name (pg_name (i := 3) sc__law_steps.nd rfl (by first | exact Or.inl rfl | exact Or.inr rfl))) (css_cons (cs_name (fun q => ps_set (i := 2) sc__law_steps.nd rfl (by first | exact Or.inl rfl | exact Or.inr rfl) q) (ce_bin op_addA (addF_ok Z.hK) addF_two (ce_var (pv 2)) (ce_bin op_mulWA mulWF_ok mulWF_two (ce_var (pv 1)) (ce_bin op_addA (addF_ok Z.hK) addF_two ce_int (ce_callO (F__law_pick.mono (by decide)) hr (by rfl) Z.m__law_pick Z.k__law_pick B__law_pick (pv 0) (ca_cons (ce_lst (ca_cons ce_int (ca_cons ce_int (ca_cons (ce_callO (F__law_taken.mono (by decide)) hr (by rfl) Z.m__law_taken Z.k__law_taken B__law_taken (pv 0) (ca_cons ce_int ca_nil) rfl) ca_nil)))) ca_nil) rfl)))))
      (css_one (cs_name (fun q => ps_set (i := 1) sc__law_steps.nd rfl (by first | exact Or.inl rfl | exact Or.inr rfl) q) (ce_ite (ct_cmp (op_eqA hr.units) (eqF_ok Z.hK) eqF_two eqF_boo (ce_var (pv 1)) (ce_str (by rfl)) (by rfl)) (ce_str (by rfl)) (ce_str (by rfl)))))))
    (css_one (cs_ret (ce_var (pv 2))))))
theorem c__law_steps {P : Program} {w : World} {K : Frag} {mg : Str → Option Value} {base : Heap} {C : Cfg} (Z : Fx P w K mg base C) : ∃ fd, FnOk P w K mg base CX0 4 (He.ga K "_law_steps") fd ["_law_row"] (spO C 1 φ__law_steps) ∧ Binds K fd ["_law_row"] [] := by
  obtain ⟨fd, F⟩ := Z.f__law_steps
  obtain ⟨fd__law_pick, F__law_pick, B__law_pick⟩ := c__law_pick (P := P) (w := w) Z
  obtain ⟨fd__law_taken, F__law_taken, B__law_taken⟩ := c__law_taken (P := P) (w := w) Z
  refine ⟨fd, ?_, F.bindsN fun _ _ _ _ _ _ us hl => match us, hl with | [_], _ => rfl⟩
  exact fnO_of F sc__law_steps Z.hK (fun cdv A outer s0 H E hcd hr => d__law_steps Z F__law_pick B__law_pick F__law_taken B__law_taken hr)
abbrev st_need_input : Stmt := top 11
def N_need_input : List Str := ["steps"]
theorem sc_need_input : FnScope N_need_input ["steps"] (defScope st_need_input) := ⟨rfl, rfl, rfl, by decide +kernel, rfl, by decide +kernel, by decide +kernel⟩
theorem d_need_input {P : Program} {w : World} {K : Frag} {mg : Str → Option Value} {base : Heap} {C : Cfg} (Z : Fx P w K mg base C) {fd_is_input : FuncData} (F_is_input : FnOk P w K mg base CX0 2 (He.ga K "is_input") fd_is_input ["value"] (spI C 1 φ_is_input)) (B_is_input : Binds K fd_is_input ["value"] [])  {cdv : Value} {A : Around} {outer : List Env} {s0 : Shared} {H : Hp} {E : XK} (hr : Room 2 (A.deeper (envOfC "need_input" (defScope st_need_input) s0.heap.objs.size (He.ga K "need_input") (cdv)))) :
    PSs (cxOf CX0 P w K mg base N_need_input "need_input" (defScope st_need_input) (He.ga K "need_input") (cdv) A outer s0 H E).nox (defBody st_need_input) (tS C s_need_input) :=
  (css_one (cs_if (ct_notF (ct_truth (ce_call (F_is_input.mono (by decide)) hr (by rfl) Z.m_is_input Z.k_is_input B_is_input (ca_cons (ce_var (pv 0)) ca_nil) rfl) Z.hK (by intro _; rfl))) (css_one cs_never) css_nil))
theorem c_need_input {P : Program} {w : World} {K : Frag} {mg : Str → Option Value} {base : Heap} {C : Cfg} (Z : Fx P w K mg base C) : ∃ fd, FnOk P w K mg base CX0 3 (He.ga K "need_input") fd ["steps"] (spI C 1 φ_need_input) ∧ Binds K fd ["steps"] [] := by
  obtain ⟨fd, F⟩ := Z.f_need_input
  obtain ⟨fd_is_input, F_is_input, B_is_input⟩ := c_is_input (P := P) (w := w) Z
  refine ⟨fd, ?_, F.bindsN fun _ _ _ _ _ _ us hl => match us, hl with | [_], _ => rfl⟩
  exact fnI_of F sc_need_input Z.hK (fun cdv A outer s0 H E hcd hr => d_need_input Z F_is_input B_is_input hr)
abbrev st_settled : Stmt := top 18
def N_settled : List Str := ["span", "rows", "letter", "first", "other", "inner", "same", "last"]
theorem sc_settled : FnScope N_settled ["span", "rows"] (defScope st_settled) := ⟨rfl, rfl, rfl, by decide +kernel, rfl, by decide +kernel, by decide +kernel⟩
theorem d_settled {P : Program} {w : World} {K : Frag} {mg : Str → Option Value} {base : Heap} {C : Cfg} (Z : Fx P w K mg base C)   {cdv : Value} {A : Around} {outer : List Env} {s0 : Shared} {H : Hp} {E : XK} (hr : Room 1 (A.deeper (envOfC "settled" (defScope st_settled) s0.heap.objs.size (He.ga K "settled") (cdv)))) :
    PSs (cxOf CX0 P w K mg base N_settled "settled" (defScope st_settled) (He.ga K "settled") (cdv) A outer s0 H E).nox (defBody st_settled) (tS C s_settled) :=
  (css_one (cs_while PassesOwn.never (ct_truth ce_bl Z.hK (by intro _; rfl)) (css_cons (cs_if (ct_cmp (op_geG hr.units) (geG_ok Z.hK) cmpG_two cmpG_boo (ce_ix (ix_A (hu1 hr)) (ixA_ok Z.hK) ixA_two (ce_ix (ix_A (hu1 hr)) (ixA_ok Z.hK) ixA_two (ce_var (pv 1)) (ce_un un_neg negF_ok ce_int) (fun _ _ => rfl)) ce_int (fun _ _ => rfl)) (ce_var (pv 0)) (by rfl)) (css_one (cs_retO (cf_lst (ca_cons (ce_tup (ca_cons (ce_ix (ix_A (hu1 hr)) (ixA_ok Z.hK) ixA_two (ce_ix (ix_A (hu1 hr)) (ixA_ok Z.hK) ixA_two (ce_var (pv 1)) (ce_un un_neg negF_ok ce_int) (fun _ _ => rfl)) ce_int (fun _ _ => rfl)) (ca_cons (ce_var (pv 0)) ca_nil))) ca_nil)))) css_nil)
      (css_cons (cs_if (cw_or (ct_cmp (op_ltG hr.units) (ltG_ok Z.hK) cmpG_two cmpG_boo (ce_callB call_lenA (lenA_ok Z.hK) (by rfl) Z.g_len (by decide +kernel) (ca_cons (ce_var (pv 1)) ca_nil)) ce_int (by rfl)) (cw_or1 (ct_cmp (op_ltG hr.units) (ltG_ok Z.hK) cmpG_two cmpG_boo (ce_ix (ix_A (hu1 hr)) (ixA_ok Z.hK) ixA_two (ce_ix (ix_A (hu1 hr)) (ixA_ok Z.hK) ixA_two (ce_var (pv 1)) (ce_un un_neg negF_ok ce_int) (fun _ _ => rfl)) ce_int (fun _ _ => rfl)) (ce_ix (ix_A (hu1 hr)) (ixA_ok Z.hK) ixA_two (ce_ix (ix_A (hu1 hr)) (ixA_ok Z.hK) ixA_two (ce_var (pv 1)) (ce_un un_neg negF_ok ce_int) (fun _ _ => rfl)) ce_int (fun _ _ => rfl)) (by rfl)))).pt (css_one (cs_retV (pv 1))) css_nil)
      (css_cons (cs_asg (ce_sl1 Z.hK (ce_var (pv 1)) (ce_un un_neg negF_ok ce_int)) (cg_tup rfl Z.hK (cgs_cons (cg_tup rfl Z.hK (cgs_cons (cg_name (pg_name (i := 2) sc_settled.nd rfl (by first | exact Or.inl rfl | exact Or.inr rfl))) (cgs_cons (cg_name (pg_name (i := 3) sc_settled.nd rfl (by first | exact Or.inl rfl | exact Or.inr rfl))) cgs_nil)) rfl) (cgs_cons (cg_tup rfl Z.hK (cgs_cons (cg_name (pg_name (i := 4) sc_settled.nd rfl (by first | exact Or.inl rfl | exact Or.inr rfl))) (cgs_cons (cg_name (pg_name (i := 5) sc_settled.nd rfl (by first | exact Or.inl rfl | exact Or.inr rfl))) cgs_nil)) rfl) (cgs_cons (cg_tup rfl Z.hK (cgs_cons (cg_name (pg_name (i := 6) sc_settled.nd rfl (by first | exact Or.inl rfl | exact Or.inr rfl))) (cgs_cons (cg_name (pg_name (i := 7) sc_settled.nd rfl (by first | exact Or.inl rfl | exact Or.inr rfl))) cgs_nil)) rfl) cgs_nil))) rfl))
      (css_one (cs_if (ct_cmp (op_geG hr.units) (geG_ok Z.hK) cmpG_two cmpG_boo (ce_var (pv 3)) (ce_var (pv 5)) (by rfl)) (css_one (cs_nameO (fun q => ps_set (i := 1) sc_settled.nd rfl (by first | exact Or.inl rfl | exact Or.inr rfl) q) (cf_lstS (cd_star Z.hK (ce_sl2 Z.hK (ce_var (pv 1)) (ce_un un_neg negF_ok ce_int)) (cd_cons (ce_tup (ca_cons (ce_var (pv 2)) (ca_cons (ce_bin op_addA (addF_ok Z.hK) addF_two (ce_bin op_sub subF_ok subF_two (ce_var (pv 3)) (ce_var (pv 5))) (ce_var (pv 7))) ca_nil))) cd_nil))))) (css_one (cs_nameO (fun q => ps_set (i := 1) sc_settled.nd rfl (by first | exact Or.inl rfl | exact Or.inr rfl) q) (cf_lst (ca_cons (ce_tup (ca_cons (ce_var (pv 4)) (ca_cons (ce_bin op_sub subF_ok subF_two (ce_var (pv 5)) (ce_var (pv 3))) ca_nil))) (ca_cons (ce_tup (ca_cons (ce_var (pv 6)) (ca_cons (ce_var (pv 7)) ca_nil))) ca_nil))))))))))))
theorem c_settled {P : Program} {w : World} {K : Frag} {mg : Str → Option Value} {base : Heap} {C : Cfg} (Z : Fx P w K mg base C) : ∃ fd, FnOk P w K mg base CX0 2 (He.ga K "settled") fd ["span", "rows"] (spM C 2 φ_settled) ∧ Binds K fd ["span", "rows"] [] := by
  obtain ⟨fd, F⟩ := Z.f_settled
  refine ⟨fd, ?_, F.bindsN fun _ _ _ _ _ _ us hl => match us, hl with | [_, _], _ => rfl⟩
  exact fnM_of F sc_settled Z.hK (fun cdv A outer s0 H E hcd hr => d_settled Z  hr)
abbrev st_reduce : Stmt := top 19
def N_reduce : List Str := ["span", "steps", "rows", "letter", "length"]
theorem sc_reduce : FnScope N_reduce ["span", "steps"] (defScope st_reduce) := ⟨rfl, rfl, rfl, by decide +kernel, rfl, by decide +kernel, by decide +kernel⟩
theorem d_reduce {P : Program} {w : World} {K : Frag} {mg : Str → Option Value} {base : Heap} {C : Cfg} (Z : Fx P w K mg base C) {fd_settled : FuncData} (F_settled : FnOk P w K mg base CX0 2 (He.ga K "settled") fd_settled ["span", "rows"] (spM C 2 φ_settled)) (B_settled : Binds K fd_settled ["span", "rows"] [])  {cdv : Value} {A : Around} {outer : List Env} {s0 : Shared} {H : Hp} {E : XK} (hr : Room 2 (A.deeper (envOfC "reduce" (defScope st_reduce) s0.heap.objs.size (He.ga K "reduce") (cdv)))) :
    PSs (cxOf CX0 P w K mg base N_reduce "reduce" (defScope st_reduce) (He.ga K "reduce") (cdv) A outer s0 H E).nox (defBody st_reduce) (tS C s_reduce) :=
  (css_cons (cs_nameO (fun q => ps_set (i := 2) sc_reduce.nd rfl (by first | exact Or.inl rfl | exact Or.inr rfl) q) (cf_lst ca_nil))
    (css_cons (cs_for PassesOwn.never rfl (ci_any Z.hK (ce_var (pv 1))) (cg_name (pg_name (i := 3) sc_reduce.nd rfl (by first | exact Or.inl rfl | exact Or.inr rfl))) (css_cons (cs_if (cw_and (ct_truth (ce_var (pv 2)) Z.hK (by intro _; rfl)) (cw_and1 (ct_cmp (op_eqA hr.units) (eqF_ok Z.hK) eqF_two eqF_boo (ce_ix (ix_A (hu1 hr)) (ixA_ok Z.hK) ixA_two (ce_ix (ix_A (hu1 hr)) (ixA_ok Z.hK) ixA_two (ce_var (pv 2)) (ce_un un_neg negF_ok ce_int) (fun _ _ => rfl)) ce_int (fun _ _ => rfl)) (ce_var (pv 3)) (by rfl)))).pt (css_one (cs_subA (fun q qi => ps_asg q (pg_sub (pv 2) qi (set_A (hu1 hr)))) (ce_tup (ca_cons (ce_var (pv 3)) (ca_cons (ce_bin op_addA (addF_ok Z.hK) addF_two (ce_ix (ix_A (hu1 hr)) (ixA_ok Z.hK) ixA_two (ce_ix (ix_A (hu1 hr)) (ixA_ok Z.hK) ixA_two (ce_var (pv 2)) (ce_un un_neg negF_ok ce_int) (fun _ _ => rfl)) ce_int (fun _ _ => rfl)) ce_int) ca_nil))) (ce_un un_neg negF_ok ce_int))) (css_one (cs_app (fun q => ps_expr (pe_bm PySem.F.plainAttrs_list PySem.F.slot_list_append PySem.F.type_list_append mt_append (pv 2) (pa_cons q pa_nil))) Z.hK (ce_tup (ca_cons (ce_var (pv 3)) (ca_cons ce_int ca_nil))))))
      (css_one (cs_mov1 (F_settled.mono (by decide)) hr (by rfl) Z.m_settled Z.k_settled B_settled (fun q => ps_set (i := 2) sc_reduce.nd rfl (by first | exact Or.inl rfl | exact Or.inr rfl) q) (ce_var (pv 0)) (pv 2)))))
    (css_one (cs_ret (ce_strm (joinF_ok Z.hK) joinF_str (fun q qa => pe_bm PySem.F.plainAttrs_str PySem.F.slot_str_join PySem.F.type_str_join mt_join q qa) (ce_str (by rfl)) (ca_cons (cf_lcE (cf_lc (own := [("letter", 3), ("length", 4)]) rfl sc_reduce.nd (ci_any Z.hK (ce_var (pv 2))) (blkE (N2 := N_reduce) (sc2 := defScope st_reduce) rfl rfl ⟨rfl, by decide +kernel, by decide +kernel, by decide +kernel, by decide +kernel⟩) (fun _ _ _ _ _ => (cg_tup rfl Z.hK (cgs_cons (cg_name (pg_name (i := 3) sc_reduce.nd rfl (by first | exact Or.inl rfl | exact Or.inr rfl))) (cgs_cons (cg_name (pg_name (i := 4) sc_reduce.nd rfl (by first | exact Or.inl rfl | exact Or.inr rfl))) cgs_nil)) rfl)) (fun _ _ _ _ _ => cts_nil) (fun _ _ _ _ _ => (ce_bin op_mulWA mulWF_ok mulWF_two (ce_var (pv 3)) (ce_var (pv 4)))) (by decide))) ca_nil))))))
theorem c_reduce {P : Program} {w : World} {K : Frag} {mg : Str → Option Value} {base : Heap} {C : Cfg} (Z : Fx P w K mg base C) : ∃ fd, FnOk P w K mg base CX0 3 (He.ga K "reduce") fd ["span", "steps"] (spI C 2 φ_reduce) ∧ Binds K fd ["span", "steps"] [] := by
  obtain ⟨fd, F⟩ := Z.f_reduce
  obtain ⟨fd_settled, F_settled, B_settled⟩ := c_settled (P := P) (w := w) Z
  refine ⟨fd, ?_, F.bindsN fun _ _ _ _ _ _ us hl => match us, hl with | [_, _], _ => rfl⟩
  exact fnI_of F sc_reduce Z.hK (fun cdv A outer s0 H E hcd hr => d_reduce Z F_settled B_settled hr)
abbrev st_reduced : Stmt := top 20
def N_reduced : List Str := ["span", "steps"]
theorem sc_reduced : FnScope N_reduced ["span", "steps"] (defScope st_reduced) := ⟨rfl, rfl, rfl, by decide +kernel, rfl, by decide +kernel, by decide +kernel⟩
theorem d_reduced {P : Program} {w : World} {K : Frag} {mg : Str → Option Value} {base : Heap} {C : Cfg} (Z : Fx P w K mg base C) {fd_need_span : FuncData} (F_need_span : FnOk P w K mg base CX0 3 (He.ga K "need_span") fd_need_span ["span"] (spI C 1 φ_need_span)) (B_need_span : Binds K fd_need_span ["span"] []) {fd_need_input : FuncData} (F_need_input : FnOk P w K mg base CX0 3 (He.ga K "need_input") fd_need_input ["steps"] (spI C 1 φ_need_input)) (B_need_input : Binds K fd_need_input ["steps"] []) {fd_reduce : FuncData} (F_reduce : FnOk P w K mg base CX0 3 (He.ga K "reduce") fd_reduce ["span", "steps"] (spI C 2 φ_reduce)) (B_reduce : Binds K fd_reduce ["span", "steps"] [])  {cdv : Value} {A : Around} {outer : List Env} {s0 : Shared} {H : Hp} {E : XK} (hr : Room 3 (A.deeper (envOfC "reduced" (defScope st_reduced) s0.heap.objs.size (He.ga K "reduced") (cdv)))) :
    PSs (cxOf CX0 P w K mg base N_reduced "reduced" (defScope st_reduced) (He.ga K "reduced") (cdv) A outer s0 H E).nox (defBody st_reduced) (tS C s_reduced) :=
  (css_cons (cs_exp (ce_call (F_need_span.mono (by decide)) hr (by rfl) Z.m_need_span Z.k_need_span B_need_span (ca_cons (ce_var (pv 0)) ca_nil) rfl))
    (css_cons (cs_exp (ce_call (F_need_input.mono (by decide)) hr (by rfl) Z.m_need_input Z.k_need_input B_need_input (ca_cons (ce_var (pv 1)) ca_nil) rfl))
    (css_one (cs_ret (ce_call (F_reduce.mono (by decide)) hr (by rfl) Z.m_reduce Z.k_reduce B_reduce (ca_cons (ce_var (pv 0)) (ca_cons (ce_var (pv 1)) ca_nil)) rfl)))))
theorem c_reduced {P : Program} {w : World} {K : Frag} {mg : Str → Option Value} {base : Heap} {C : Cfg} (Z : Fx P w K mg base C) : ∃ fd, FnOk P w K mg base CX0 4 (He.ga K "reduced") fd ["span", "steps"] (spI C 2 φ_reduced) ∧ Binds K fd ["span", "steps"] [] := by
  obtain ⟨fd, F⟩ := Z.f_reduced
  obtain ⟨fd_need_span, F_need_span, B_need_span⟩ := c_need_span (P := P) (w := w) Z
  obtain ⟨fd_need_input, F_need_input, B_need_input⟩ := c_need_input (P := P) (w := w) Z
  obtain ⟨fd_reduce, F_reduce, B_reduce⟩ := c_reduce (P := P) (w := w) Z
  refine ⟨fd, ?_, F.bindsN fun _ _ _ _ _ _ us hl => match us, hl with | [_, _], _ => rfl⟩
  exact fnI_of F sc_reduced Z.hK (fun cdv A outer s0 H E hcd hr => d_reduced Z F_need_span B_need_span F_need_input B_need_input F_reduce B_reduce hr)
abbrev st_law : Stmt := top 53
def N_law : List Str := ["_law_script", "_law_row", "_law_span", "_law_some", "_law_rank", "_law_many", "_law_k", "_law_words", "_law_turn", "_law_more", "_law_word"]
theorem sc_law : FnScope N_law ["_law_script"] (defScope st_law) := ⟨rfl, rfl, rfl, by decide +kernel, rfl, by decide +kernel, by decide +kernel⟩
theorem d_law {P : Program} {w : World} {K : Frag} {mg : Str → Option Value} {base : Heap} {C : Cfg} (Z : Fx P w K mg base C) {fd__law_taken : FuncData} (F__law_taken : FnOk P w K mg base CX0 2 (He.ga K "_law_taken") fd__law_taken ["_law_row", "_law_many"] (spO C 2 φ__law_taken)) (B__law_taken : Binds K fd__law_taken ["_law_row", "_law_many"] []) {fd_asked_rank : FuncData} (F_asked_rank : FnOk P w K mg base CX0 6 (He.ga K "asked_rank") fd_asked_rank ["span", "some"] (spI C 2 φ_asked_rank)) (B_asked_rank : Binds K fd_asked_rank ["span", "some"] []) {fd_tells_all : FuncData} (F_tells_all : FnOk P w K mg base CX0 6 (He.ga K "tells_all") fd_tells_all ["span", "some"] (spI C 2 φ_tells_all)) (B_tells_all : Binds K fd_tells_all ["span", "some"] []) {fd_next_asking : FuncData} (F_next_asking : FnOk P w K mg base CX0 12 (He.ga K "next_asking") fd_next_asking ["span", "some"] (spI C 2 φ_next_asking)) (B_next_asking : Binds K fd_next_asking ["span", "some"] []) {fd__law_steps : FuncData} (F__law_steps : FnOk P w K mg base CX0 4 (He.ga K "_law_steps") fd__law_steps ["_law_row"] (spO C 1 φ__law_steps)) (B__law_steps : Binds K fd__law_steps ["_law_row"] []) {fd_reduced : FuncData} (F_reduced : FnOk P w K mg base CX0 4 (He.ga K "reduced") fd_reduced ["span", "steps"] (spI C 2 φ_reduced)) (B_reduced : Binds K fd_reduced ["span", "steps"] [])  {cdv : Value} {A : Around} {outer : List Env} {s0 : Shared} {H : Hp} {E : XK} (hr : Room 12 (A.deeper (envOfC "law" (defScope st_law) s0.heap.objs.size (He.ga K "law") (cdv)))) :
    PSs (cxOf CX0 P w K mg base N_law "law" (defScope st_law) (He.ga K "law") (cdv) A outer s0 H E).nox (defBody st_law) (tS C s_law) :=
  (css_cons (cs_nameO (fun q => ps_set (i := 1) sc_law.nd rfl (by first | exact Or.inl rfl | exact Or.inr rfl) q) (cf_lst (ca_cons (ce_var (pv 0)) (ca_cons ce_int (ca_cons ce_int (ca_cons ce_int ca_nil))))))
    (css_cons (cs_name (fun q => ps_set (i := 2) sc_law.nd rfl (by first | exact Or.inl rfl | exact Or.inr rfl) q) (ce_bin op_addA (addF_ok Z.hK) addF_two ce_int (ce_callO (F__law_taken.mono (by decide)) hr (by rfl) Z.m__law_taken Z.k__law_taken B__law_taken (pv 1) (ca_cons ce_int ca_nil) rfl)))
    (css_cons (cs_setLc (own := [("_law_k", 6)]) rfl sc_law.nd rfl rfl (by rfl) (ci_range1 (by rfl) Z.g_range (ca_cons (ce_callO (F__law_taken.mono (by decide)) hr (by rfl) Z.m__law_taken Z.k__law_taken B__law_taken (pv 1) (ca_cons ce_int ca_nil) rfl) ca_nil)) (blkE (N2 := N_law) (sc2 := defScope st_law) rfl rfl ⟨rfl, by decide +kernel, by decide +kernel, by decide +kernel, by decide +kernel⟩) (fun _ _ _ _ _ => (cg_name (pg_name (i := 6) sc_law.nd rfl (by first | exact Or.inl rfl | exact Or.inr rfl)))) (fun _ _ _ _ _ => cts_nil) (fun _ _ _ _ _ => (ce_sl2 Z.hK (ce_callO (F__law_steps.mono (by decide)) hr (by rfl) Z.m__law_steps Z.k__law_steps B__law_steps (pv 1) ca_nil rfl) ce_int)) (by decide))
    (css_cons (cs_par (i := 4) (j := 5) rfl sc_law.nd rfl rfl (by decide) rfl rfl (ca_cons (ce_call (F_asked_rank.mono (by decide)) hr (by rfl) Z.m_asked_rank Z.k_asked_rank B_asked_rank (ca_cons (ce_var (pv 2)) (ca_cons (ce_callTy call_tuple_of tupleF_ok (by rfl) Z.g_tuple (by decide +kernel) (ca_cons (ce_var (pv 3)) ca_nil)) ca_nil)) rfl) (ca_cons (ce_bin op_fdivZ fdivZF_ok fdivZF_two (ce_bin op_mulWA mulWF_ok mulWF_two (ce_var (pv 2)) (ce_bin op_addA (addF_ok Z.hK) addF_two (ce_var (pv 2)) ce_int)) ce_int) ca_nil)) (by rfl))
    (css_cons (cs_if (ct_cmp (op_gtG hr.units) (gtG_ok Z.hK) cmpG_two cmpG_boo (ce_var (pv 4)) (ce_callB (call_min2 rfl) min2F_ok (by rfl) Z.g_min (by decide +kernel) (ca_cons (ce_callB call_lenA (lenA_ok Z.hK) (by rfl) Z.g_len (by decide +kernel) (ca_cons (ce_var (pv 3)) ca_nil)) (ca_cons (ce_var (pv 5)) ca_nil))) (by rfl)) (css_one (cs_ret ce_bl)) css_nil)
    (css_cons (cs_if (ct_cmp (op_neA hr.units) (neF_ok Z.hK) neF_two neF_boo (ce_call (F_asked_rank.mono (by decide)) hr (by rfl) Z.m_asked_rank Z.k_asked_rank B_asked_rank (ca_cons (ce_var (pv 2)) (ca_cons (ce_callTy call_tuple_of tupleF_ok (by rfl) Z.g_tuple (by decide +kernel) (ca_cons (cf_op (cf_revL (ce_var (pv 3)) Z.hK)) ca_nil)) ca_nil)) rfl) (ce_var (pv 4)) (by rfl)) (css_one (cs_ret ce_bl)) css_nil)
    (css_cons (cs_if (ct_cmp (op_neA hr.units) (neF_ok Z.hK) neF_two neF_boo (ce_call (F_asked_rank.mono (by decide)) hr (by rfl) Z.m_asked_rank Z.k_asked_rank B_asked_rank (ca_cons (ce_var (pv 2)) (ca_cons (ce_sl2 Z.hK (ce_callTy call_tuple_of tupleF_ok (by rfl) Z.g_tuple (by decide +kernel) (ca_cons (ce_bin op_addA (addF_ok Z.hK) addF_two (ce_var (pv 3)) (ce_var (pv 3))) ca_nil)) ce_int) ca_nil)) rfl) (ce_var (pv 4)) (by rfl)) (css_one (cs_ret ce_bl)) css_nil)
    (css_cons (cs_if (ct_cmp (op_neA hr.units) (neF_ok Z.hK) neF_two neF_boo (ce_call (F_asked_rank.mono (by decide)) hr (by rfl) Z.m_asked_rank Z.k_asked_rank B_asked_rank (ca_cons (ce_var (pv 2)) (ca_cons (ce_callTy call_tuple_of tupleF_ok (by rfl) Z.g_tuple (by decide +kernel) (ca_cons (cf_lcE (cf_lc (own := [("_law_word", 10)]) rfl sc_law.nd (ci_any Z.hK (ce_var (pv 3))) (blkE (N2 := N_law) (sc2 := defScope st_law) rfl rfl ⟨rfl, by decide +kernel, by decide +kernel, by decide +kernel, by decide +kernel⟩) (fun _ _ _ _ _ => (cg_name (pg_name (i := 10) sc_law.nd rfl (by first | exact Or.inl rfl | exact Or.inr rfl)))) (fun _ _ _ _ _ => cts_nil) (fun _ _ _ _ _ => (ce_call (F_reduced.mono (by decide)) hr (by rfl) Z.m_reduced Z.k_reduced B_reduced (ca_cons (ce_var (pv 2)) (ca_cons (ce_bin op_addA (addF_ok Z.hK) addF_two (ce_bin op_mulWA mulWF_ok mulWF_two (ce_str (by rfl)) (ce_var (pv 2))) (ce_var (pv 10))) ca_nil)) rfl)) (by decide))) ca_nil)) ca_nil)) rfl) (ce_var (pv 4)) (by rfl)) (css_one (cs_ret ce_bl)) css_nil)
    (css_cons (cs_if (ct_cmp (op_neA hr.units) (neF_ok Z.hK) neF_two neF_boo (ce_call (F_tells_all.mono (by decide)) hr (by rfl) Z.m_tells_all Z.k_tells_all B_tells_all (ca_cons (ce_var (pv 2)) (ca_cons (ce_callTy call_tuple_of tupleF_ok (by rfl) Z.g_tuple (by decide +kernel) (ca_cons (ce_var (pv 3)) ca_nil)) ca_nil)) rfl) (ce_cmp (op_eqA hr.units) (eqF_ok Z.hK) eqF_two (ce_var (pv 4)) (ce_var (pv 5)) (by rfl)) (by rfl)) (css_one (cs_ret ce_bl)) css_nil)
    (css_cons (cs_for PassesOwn.never rfl (ci_range1 (by rfl) Z.g_range (ca_cons (ce_callB call_lenA (lenA_ok Z.hK) (by rfl) Z.g_len (by decide +kernel) (ca_cons (ce_var (pv 3)) ca_nil)) ca_nil)) (cg_name (pg_name (i := 6) sc_law.nd rfl (by first | exact Or.inl rfl | exact Or.inr rfl))) (css_one (cs_if (ct_notF (ct_chain (op_leG hr.units) (op_leG hr.units) (leG_ok Z.hK) (leG_ok Z.hK) cmpG_boo (ce_bin op_sub subF_ok subF_two (ce_var (pv 4)) ce_int) (ce_call (F_asked_rank.mono (by decide)) hr (by rfl) Z.m_asked_rank Z.k_asked_rank B_asked_rank (ca_cons (ce_var (pv 2)) (ca_cons (ce_callTy call_tuple_of tupleF_ok (by rfl) Z.g_tuple (by decide +kernel) (ca_cons (ce_bin op_addA (addF_ok Z.hK) addF_two (ce_sl2 Z.hK (ce_var (pv 3)) (ce_var (pv 6))) (ce_sl1 Z.hK (ce_var (pv 3)) (ce_bin op_addA (addF_ok Z.hK) addF_two (ce_var (pv 6)) ce_int))) ca_nil)) ca_nil)) rfl) (ce_var (pv 4)))) (css_one (cs_ret ce_bl)) css_nil)))
    (css_cons (cs_nameO (fun q => ps_set (i := 7) sc_law.nd rfl (by first | exact Or.inl rfl | exact Or.inr rfl) q) (cf_callTyG (call_listA rfl) listA_ok (by rfl) Z.g_list (by decide +kernel) (ca_cons (ce_var (pv 3)) ca_nil)))
    (css_cons (cs_for PassesOwn.never rfl (ci_range1 (by rfl) Z.g_range (ca_cons (ce_bin op_sub subF_ok subF_two ce_int (ce_callB call_lenA (lenA_ok Z.hK) (by rfl) Z.g_len (by decide +kernel) (ca_cons (ce_var (pv 3)) ca_nil))) ca_nil)) (cg_name (pg_name (i := 8) sc_law.nd rfl (by first | exact Or.inl rfl | exact Or.inr rfl))) (css_cons (cs_name (fun q => ps_set (i := 9) sc_law.nd rfl (by first | exact Or.inl rfl | exact Or.inr rfl) q) (ce_call (F_next_asking.mono (by decide)) hr (by rfl) Z.m_next_asking Z.k_next_asking B_next_asking (ca_cons (ce_var (pv 2)) (ca_cons (ce_callTy call_tuple_of tupleF_ok (by rfl) Z.g_tuple (by decide +kernel) (ca_cons (ce_var (pv 7)) ca_nil)) ca_nil)) rfl))
      (css_cons (cs_if (ct_cmp (op_neA hr.units) (neF_ok Z.hK) neF_two neF_boo (ce_cmp op_isN isNF_ok isNF_two (ce_var (pv 9)) ce_non (by rfl)) (ce_cmp (op_eqA hr.units) (eqF_ok Z.hK) eqF_two (ce_var (pv 4)) (ce_var (pv 5)) (by rfl)) (by rfl)) (css_one (cs_ret ce_bl)) css_nil)
      (css_one (cs_if (ct_cmp op_notN notNF_ok notNF_two notNF_boo (ce_var (pv 9)) ce_non (by rfl)) (css_cons (cs_app (fun q => ps_expr (pe_bm PySem.F.plainAttrs_list PySem.F.slot_list_append PySem.F.type_list_append mt_append (pv 7) (pa_cons q pa_nil))) Z.hK (ce_var (pv 9)))
        (css_cons (cs_name (fun q => ps_set (i := 4) sc_law.nd rfl (by first | exact Or.inl rfl | exact Or.inr rfl) q) (ce_bin op_addA (addF_ok Z.hK) addF_two (ce_var (pv 4)) ce_int))
        (css_one (cs_if (ct_cmp (op_neA hr.units) (neF_ok Z.hK) neF_two neF_boo (ce_call (F_asked_rank.mono (by decide)) hr (by rfl) Z.m_asked_rank Z.k_asked_rank B_asked_rank (ca_cons (ce_var (pv 2)) (ca_cons (ce_callTy call_tuple_of tupleF_ok (by rfl) Z.g_tuple (by decide +kernel) (ca_cons (ce_var (pv 7)) ca_nil)) ca_nil)) rfl) (ce_var (pv 4)) (by rfl)) (css_one (cs_ret ce_bl)) css_nil)))) css_nil)))))
    (css_one (cs_ret ce_bl))))))))))))))
theorem law_ok {P : Program} {w : World} {K : Frag} {mg : Str → Option Value} {base : Heap} {C : Cfg} (Z : Fx P w K mg base C) {fd : FuncData} (F : FunD K "law" "law" (defArgs st_law) (defBody st_law) (defScope st_law) [] [] (He.ga K "law") fd) : FnOk P w K mg base CX0 13 (He.ga K "law") fd ["_law_script"] (spI C 1 φ_law) := by
  obtain ⟨fd__law_taken, F__law_taken, B__law_taken⟩ := c__law_taken (P := P) (w := w) Z
  obtain ⟨fd_asked_rank, F_asked_rank, B_asked_rank⟩ := c_asked_rank (P := P) (w := w) Z
  obtain ⟨fd_tells_all, F_tells_all, B_tells_all⟩ := c_tells_all (P := P) (w := w) Z
  obtain ⟨fd_next_asking, F_next_asking, B_next_asking⟩ := c_next_asking (P := P) (w := w) Z
  obtain ⟨fd__law_steps, F__law_steps, B__law_steps⟩ := c__law_steps (P := P) (w := w) Z
  obtain ⟨fd_reduced, F_reduced, B_reduced⟩ := c_reduced (P := P) (w := w) Z
  exact fnI_of F sc_law Z.hK (fun cdv A outer s0 H E hcd hr => d_law Z F__law_taken B__law_taken F_asked_rank B_asked_rank F_tells_all B_tells_all F_next_asking B_next_asking F__law_steps B__law_steps F_reduced B_reduced hr)
end Mi
namespace Mi
open PySem PySem.Spec PyProof.Rows L2 GxR
section
variable {w : World} {K : Frag} {h : Heap} {mg : Str → Option Value}
abbrev cfg (P : Program) (w : World) (K : Frag) : Cfg := ⟨⟨K, P, w⟩, (tfs.map (He.cT K)).map (·.2), ls.map fun q => ((He.cT K q.1).2, q.2)⟩
theorem fx_of {P : Program} {base : Heap} (X : K.In h) (G : h.Ns mainGlobals mg) (c : He.SaysX fas fns [] tfs exK w h K) (hT : ∀ p ∈ tfs.map (He.cT K), TabB base mg p.1 p.2) : Fx P w K mg base (cfg P w K) :=
  ⟨rfl,
    rfl,
    rfl,
    He.free_ok X G (c.t.d.fact 32 rfl),
    He.free_ok X G (c.t.d.fact 33 rfl),
    He.free_ok X G (c.t.d.fact 34 rfl),
    He.free_ok X G (c.t.d.fact 35 rfl),
    He.free_ok X G (c.t.d.fact 36 rfl),
    He.free_ok X G (c.t.d.fact 37 rfl),
    He.free_ok X G (c.t.d.fact 38 rfl),
    He.free_ok X G (c.t.d.fact 39 rfl),
    He.free_ok X G (c.t.d.fact 40 rfl),
    He.free_ok X G (c.t.d.fact 41 rfl),
    He.free_ok X G (c.t.d.fact 42 rfl),
    He.free_ok X G (c.t.d.fact 43 rfl),
    PySem.W.mg_of X G (He.eqO_ok c.more),
    He.int_ok X G (c.t.d.fact 44 rfl),
    He.int_ok X G (c.t.d.fact 45 rfl),
    He.int_ok X G (c.t.d.fact 46 rfl),
    He.glo_ok X G (c.t.d.fact 0 rfl),
    (let ⟨_, F⟩ := c.t.d.def_ 0 (d := fnD "_law_taken" 45) rfl; F.kp),
    c.t.d.def_ 0 (d := fnD "_law_taken" 45) rfl,
    He.glo_ok X G (c.t.d.fact 1 rfl),
    (let ⟨_, F⟩ := c.t.d.def_ 1 (d := fnD "is_in" 9) rfl; F.kp),
    c.t.d.def_ 1 (d := fnD "is_in" 9) rfl,
    He.glo_ok X G (c.t.d.fact 2 rfl),
    (let ⟨_, F⟩ := c.t.d.def_ 2 (d := fnD "need_span" 12) rfl; F.kp),
    c.t.d.def_ 2 (d := fnD "need_span" 12) rfl,
    He.glo_ok X G (c.t.d.fact 3 rfl),
    (let ⟨_, F⟩ := c.t.d.def_ 3 (d := fnD "is_input" 10) rfl; F.kp),
    c.t.d.def_ 3 (d := fnD "is_input" 10) rfl,
    hT _ (List.mem_of_getElem? (i := 0) rfl),
    gt_nil (List.mem_of_getElem? (i := 0) rfl),
    (let ⟨_, F⟩ := c.t.d.def_ 3 (d := fnD "is_input" 10) rfl; tc_of F),
    He.glo_ok X G (c.t.d.fact 4 rfl),
    (let ⟨_, F⟩ := c.t.d.def_ 4 (d := fnD "need_asked" 37) rfl; F.kp),
    c.t.d.def_ 4 (d := fnD "need_asked" 37) rfl,
    He.glo_ok X G (c.t.d.fact 5 rfl),
    (let ⟨_, F⟩ := c.t.d.def_ 5 (d := fnD "lead" 38) rfl; F.kp),
    c.t.d.def_ 5 (d := fnD "lead" 38) rfl,
    He.glo_ok X G (c.t.d.fact 6 rfl),
    (let ⟨_, F⟩ := c.t.d.def_ 6 (d := fnD "ratio" 22) rfl; F.kp),
    c.t.d.def_ 6 (d := fnD "ratio" 22) rfl,
    He.glo_ok X G (c.t.d.fact 7 rfl),
    (let ⟨_, F⟩ := c.t.d.def_ 7 (d := fnD "over" 25) rfl; F.kp),
    c.t.d.def_ 7 (d := fnD "over" 25) rfl,
    He.glo_ok X G (c.t.d.fact 8 rfl),
    (let ⟨_, F⟩ := c.t.d.def_ 8 (d := fnD "minus" 23) rfl; F.kp),
    c.t.d.def_ 8 (d := fnD "minus" 23) rfl,
    He.glo_ok X G (c.t.d.fact 9 rfl),
    (let ⟨_, F⟩ := c.t.d.def_ 9 (d := fnD "by" 24) rfl; F.kp),
    c.t.d.def_ 9 (d := fnD "by" 24) rfl,
    He.glo_ok X G (c.t.d.fact 10 rfl),
    (let ⟨_, F⟩ := c.t.d.def_ 10 (d := fnD "step" 13) rfl; F.kp),
    c.t.d.def_ 10 (d := fnD "step" 13) rfl,
    He.glo_ok X G (c.t.d.fact 11 rfl),
    (let ⟨_, F⟩ := c.t.d.def_ 11 (d := fnD "behind" 14) rfl; F.kp),
    c.t.d.def_ 11 (d := fnD "behind" 14) rfl,
    He.glo_ok X G (c.t.d.fact 12 rfl),
    (let ⟨_, F⟩ := c.t.d.def_ 12 (d := fnD "place" 28) rfl; F.kp),
    c.t.d.def_ 12 (d := fnD "place" 28) rfl,
    He.glo_ok X G (c.t.d.fact 13 rfl),
    (let ⟨_, F⟩ := c.t.d.def_ 13 (d := fnD "holds" 29) rfl; F.kp),
    c.t.d.def_ 13 (d := fnD "holds" 29) rfl,
    He.glo_ok X G (c.t.d.fact 14 rfl),
    (let ⟨_, F⟩ := c.t.d.def_ 14 (d := fnD "all_relays" 27) rfl; F.kp),
    c.t.d.def_ 14 (d := fnD "all_relays" 27) rfl,
    He.glo_ok X G (c.t.d.fact 15 rfl),
    (let ⟨_, F⟩ := c.t.d.def_ 15 (d := fnD "row_of" 32) rfl; F.kp),
    c.t.d.def_ 15 (d := fnD "row_of" 32) rfl,
    He.glo_ok X G (c.t.d.fact 16 rfl),
    (let ⟨_, F⟩ := c.t.d.def_ 16 (d := fnD "basis_of" 40) rfl; F.kp),
    c.t.d.def_ 16 (d := fnD "basis_of" 40) rfl,
    He.glo_ok X G (c.t.d.fact 17 rfl),
    (let ⟨_, F⟩ := c.t.d.def_ 17 (d := fnD "asked_rank" 41) rfl; F.kp),
    c.t.d.def_ 17 (d := fnD "asked_rank" 41) rfl,
    He.glo_ok X G (c.t.d.fact 18 rfl),
    (let ⟨_, F⟩ := c.t.d.def_ 18 (d := fnD "tells_all" 42) rfl; F.kp),
    c.t.d.def_ 18 (d := fnD "tells_all" 42) rfl,
    He.glo_ok X G (c.t.d.fact 19 rfl),
    (let ⟨_, F⟩ := c.t.d.def_ 19 (d := fnD "all_memories" 15) rfl; F.kp),
    c.t.d.def_ 19 (d := fnD "all_memories" 15) rfl,
    He.glo_ok X G (c.t.d.fact 20 rfl),
    (let ⟨_, F⟩ := c.t.d.def_ 20 (d := fnD "on_in" 30) rfl; F.kp),
    c.t.d.def_ 20 (d := fnD "on_in" 30) rfl,
    He.glo_ok X G (c.t.d.fact 21 rfl),
    (let ⟨_, F⟩ := c.t.d.def_ 21 (d := fnD "reduced_by" 39) rfl; F.kp),
    c.t.d.def_ 21 (d := fnD "reduced_by" 39) rfl,
    He.glo_ok X G (c.t.d.fact 22 rfl),
    (let ⟨_, F⟩ := c.t.d.def_ 22 (d := fnD "way_from_all" 34) rfl; F.kp),
    c.t.d.def_ 22 (d := fnD "way_from_all" 34) rfl,
    He.glo_ok X G (c.t.d.fact 23 rfl),
    (let ⟨_, F⟩ := c.t.d.def_ 23 (d := fnD "way_of" 35) rfl; F.kp),
    c.t.d.def_ 23 (d := fnD "way_of" 35) rfl,
    He.glo_ok X G (c.t.d.fact 24 rfl),
    (let ⟨_, F⟩ := c.t.d.def_ 24 (d := fnD "next_asking" 43) rfl; F.kp),
    c.t.d.def_ 24 (d := fnD "next_asking" 43) rfl,
    He.glo_ok X G (c.t.d.fact 25 rfl),
    (let ⟨_, F⟩ := c.t.d.def_ 25 (d := fnD "_law_pick" 46) rfl; F.kp),
    c.t.d.def_ 25 (d := fnD "_law_pick" 46) rfl,
    He.glo_ok X G (c.t.d.fact 26 rfl),
    (let ⟨_, F⟩ := c.t.d.def_ 26 (d := fnD "_law_steps" 52) rfl; F.kp),
    c.t.d.def_ 26 (d := fnD "_law_steps" 52) rfl,
    He.glo_ok X G (c.t.d.fact 27 rfl),
    (let ⟨_, F⟩ := c.t.d.def_ 27 (d := fnD "need_input" 11) rfl; F.kp),
    c.t.d.def_ 27 (d := fnD "need_input" 11) rfl,
    He.glo_ok X G (c.t.d.fact 28 rfl),
    (let ⟨_, F⟩ := c.t.d.def_ 28 (d := fnD "settled" 18) rfl; F.kp),
    c.t.d.def_ 28 (d := fnD "settled" 18) rfl,
    He.glo_ok X G (c.t.d.fact 29 rfl),
    (let ⟨_, F⟩ := c.t.d.def_ 29 (d := fnD "reduce" 19) rfl; F.kp),
    c.t.d.def_ 29 (d := fnD "reduce" 19) rfl,
    He.glo_ok X G (c.t.d.fact 30 rfl),
    (let ⟨_, F⟩ := c.t.d.def_ 30 (d := fnD "reduced" 20) rfl; F.kp),
    c.t.d.def_ 30 (d := fnD "reduced" 20) rfl,
    He.glo_ok X G (c.t.d.fact 31 rfl),
    (let ⟨_, F⟩ := c.t.d.def_ 31 (d := fnD "law" 53) rfl; F.kp),
    c.t.d.def_ 31 (d := fnD "law" 53) rfl⟩
end
end Mi
open PySem PySem.W PySem.Calls PyProof.Rows
theorem PySem.Challenge.cw_relaybanks_k82_across_askings_holds : PySem.Challenge.rw_relaybanks_k82_across_askings.Holds := by
  w_on; o_law
  refine Mi.Imp.head_imp (r := OpenLaw.row PySem.Challenge.rw_relaybanks_k82_across_askings) (q := view (OpenLaw.row PySem.Challenge.rw_relaybanks_k82_across_askings).prog [53]) (H := Mi.hk) (ob := Mi.ob) (M0 := 4000) (M := 4000) (loose := (("gcd" : Str) :: ("RelayError" : Str) :: ("BadInput" : Str) :: ("BadSpan" : Str) :: ("BadInputs" : Str) :: ("MOST_SPAN" : Str) :: ("MOST_STEPS" : Str) :: ("is_in" : Str) :: ("is_input" : Str) :: ("need_input" : Str) :: ("need_span" : Str) :: ("step" : Str) :: ("behind" : Str) :: ("all_memories" : Str) :: ("MOST_INPUTS" : Str) :: ("settled" : Str) :: ("reduce" : Str) :: ("reduced" : Str) :: ("ratio" : Str) :: ("minus" : Str) :: ("by" : Str) :: ("over" : Str) :: ("all_relays" : Str) :: ("place" : Str) :: ("holds" : Str) :: ("on_in" : Str) :: ("row_of" : Str) :: ("way_from_all" : Str) :: ("way_of" : Str) :: ("need_asked" : Str) :: ("lead" : Str) :: ("reduced_by" : Str) :: ("basis_of" : Str) :: ("asked_rank" : Str) :: ("tells_all" : Str) :: ("next_asking" : Str) :: ("_law_taken" : Str) :: ("_law_pick" : Str) :: ("_law_alike" : Str) :: ("_law_step" : Str) :: ("_law_behind" : Str) :: ("_law_all" : Str) :: ("_law_memory" : Str) :: ("_law_steps" : Str) :: [])) (d := HandSHeadRun.topDef (OpenLaw.row PySem.Challenge.rw_relaybanks_k82_across_askings).prog 53) (kwd := []) Mi.ob_eq
    Mi.run (by kernel_rfl) (by kernel_rfl) (by kernel_rfl) (by rfl) (by first | assumption | decide +kernel) (by decide +kernel) ⟨rfl, rfl, rfl, rfl, rfl, by decide +kernel⟩ ?hw ?hc
  case hw => w_witness2
  case hc =>
    refine LamX.walk_ofTsE (l := PySem.Challenge.rw_relaybanks_k82_across_askings) (n := 63) (k := 13) (x := "_law_script") (CX := fun _ => L2.CX0) rfl (by decide) (by kernel_rfl) ⟨rfl, by decide, by decide⟩ ?F (fun _ _ _ _ _ z => z)
    intro w mg fa h Y G hmg0
    obtain ⟨K, KX, c⟩ := Y
    have hmg : mg ("law" : PySem.Str) = some (.ref fa) := by
      have e : (HandSHeadRun.topDef (OpenLaw.row PySem.Challenge.rw_relaybanks_k82_across_askings).prog 53).name = ("law" : PySem.Str) := by kernel_rfl
      rw [← e]
      exact hmg0
    obtain ⟨fd, F⟩ := c.t.d.def_ 31 (d := Mi.fnD "law" 53) rfl
    have e := hmg.symm.trans (He.glo_ok KX G (c.t.d.fact 31 (f := .glo "law") rfl))
    have e2 : fa = He.ga K "law" := by
      cases e
      rfl
    subst e2
    refine ⟨K, KX, Mi.law_at Mi.ls c KX F (fun s v => F.bindsA (ps := ["_law_script"]) (fun _ _ _ _ _ _ us hl => match us, hl with | [_], _ => rfl) s [v] rfl) (fun base hT => (Mi.fx_of (base := base) KX G c hT)) (fun base Z => Mi.law_ok Z F) Mi.law_true⟩
