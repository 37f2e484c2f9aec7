import PyProof.Rows.All
import Wide.All
import OpenK.AllK
import Wide.FinOn
import HandS.ForMost
import HandS.AnyAll
import HandS.IsInst
import HandS.StrMore
import HandS.Flow
import HandS.Defaults
import HandS.EndTab
import HandS.HeadHook4
import HandS.HeadWalk
import HandS.Head2
import HandS.NoneIn
import HandS.Deep
import KE.SortData
import KE.GoesEnum
import HandS.Star
import HandS.Gcd
import KE.DataMinMax
import KE.KTupSum
import HandS.Style
import PyProof.GenCompD
import KE.DataFind
import HandS.GenList
import HandS.More
import HandS.TupLen
import HandS.Iter
import HandS.Conv
import KE.KDictDisplayH
import HandS.TupSets
import PySem.Challenge.RW_relaybanks_k10_whole_order
set_option Elab.async false
set_option linter.all false
set_option maxRecDepth 100000
set_option maxHeartbeats 4000000
/-! Plain data, what represents it, and a small language over it. -/
namespace Mi
open PySem PySem.Spec PyProof.Rows L2 GxR
abbrev Frag := PySem.W.Frag
abbrev St := L2.St
inductive D where
  | non
  | bl (b : Bool)
  | int (i : Int)
  | str (s : List Nat)
  | tup (l : List D)
  | lst (l : List D)
  | dic (ks vs : List D)
  | scr (ns : List Int)
deriving Inhabited
def keyD : Key → D
  | .inl i => .int i
  | .inr x => .str x.cps.toList
mutual
inductive Rep (K : Frag) (G : Hp) : V → D → Prop
  | non : Rep K G .non .non
  | bl (b : Bool) : Rep K G (.bl b) (.bl b)
  | int (i : Int) : Rep K G (.int i) (.int i)
  | str (s : List Nat) : Rep K G (.str ⟨s.toArray⟩) (.str s)
  | tup {a : Addr} {xs : List V} {ds : List D} : G a = some (.tup xs) → RepL K G xs ds → Rep K G (.ref a) (.tup ds)
  | lst {a : Addr} {xs : List V} {ds : List D} : G a = some (.lst xs) → RepL K G xs ds → Rep K G (.ref a) (.lst ds)
  | scr {a : Addr} {ns : List Int} : SqL K G a (ns.map V.int) → Rep K G (.ref a) (.scr ns)
  | dK {a : Addr} {kvs : List (Key × V)} {ks vs : List D} : Rd G a (.dK kvs) → ks = kvs.map (fun q => keyD q.1) → RepL K G (kvs.map (·.2)) vs → Rep K G (.ref a) (.dic ks vs)
  | dT {a : Addr} {kvs : List (List Key × V)} {ks vs : List D} : Rd G a (.dT kvs) → ks = .non :: kvs.map (fun q => D.tup (q.1.map keyD)) → RepL K G (kvs.map (·.2)) vs → Rep K G (.ref a) (.dic ks vs)
inductive RepL (K : Frag) (G : Hp) : List V → List D → Prop
  | nil : RepL K G [] []
  | cons {v : V} {vs : List V} {d : D} {ds : List D} : Rep K G v d → RepL K G vs ds → RepL K G (v :: vs) (d :: ds)
end
inductive RepO (K : Frag) (G : Hp) : HO → D → Prop
  | lst {xs : List V} {ds : List D} : RepL K G xs ds → RepO K G (.lst xs) (.lst ds)
  | dK {kvs : List (Key × V)} {ks vs : List D} : ks = kvs.map (fun q => keyD q.1) → RepL K G (kvs.map (·.2)) vs → RepO K G (.dK kvs) (.dic ks vs)
  | dT {kvs : List (List Key × V)} {ks vs : List D} : ks = .non :: kvs.map (fun q => D.tup (q.1.map keyD)) → RepL K G (kvs.map (·.2)) vs → RepO K G (.dT kvs) (.dic ks vs)
section
variable {K : Frag} {G G' H H' : Hp}
theorem _root_.L2.Same.rd {a : Addr} {u : HO} (s : Same G G') (h : Rd G a u) : Rd G' a u := by
  rcases h with h | ⟨o, h⟩
  · exact .inl (s _ _ h)
  · exact .inr ⟨o, s _ _ h⟩
theorem _root_.L2.Same.seqT {a : Addr} {xs : List V} (s : Same G G') (h : SqT K G a xs) : SqT K G' a xs := by
  rcases h with h | h
  · exact .inl (s.rd h)
  · exact .inr h
mutual
theorem Rep.mono (s : Same G G') : ∀ (d : D) (v : V), Rep K G v d → Rep K G' v d
  | .non, _, h => by cases h; exact .non
  | .bl b, _, h => by cases h; exact .bl b
  | .int i, _, h => by cases h; exact .int i
  | .str x, _, h => by cases h; exact .str x
  | .tup ds, _, h => by
    cases h with
    | tup q r => exact .tup (s _ _ q) (RepL.mono s ds _ r)
  | .lst ds, _, h => by
    cases h with
    | lst q r => exact .lst (s _ _ q) (RepL.mono s ds _ r)
  | .scr ns, _, h => by
    cases h with
    | scr q => exact .scr (s.seq q)
  | .dic ks vs, _, h => by
    cases h with
    | dK q e r => exact .dK (s.rd q) e (RepL.mono s vs _ r)
    | dT q e r => exact .dT (s.rd q) e (RepL.mono s vs _ r)
theorem RepL.mono (s : Same G G') : ∀ (ds : List D) (vs : List V), RepL K G vs ds → RepL K G' vs ds
  | [], _, h => by cases h; exact .nil
  | d :: ds, _, h => by
    cases h with
    | cons a b => exact .cons (Rep.mono s d _ a) (RepL.mono s ds _ b)
end
theorem RepO.mono (s : Same G G') {o : HO} {d : D} (h : RepO K G o d) : RepO K G' o d := by
  cases h with
  | lst r => exact .lst (r.mono s)
  | dK e r => exact .dK e (r.mono s)
  | dT e r => exact .dT e (r.mono s)
theorem RepL.length : ∀ {vs : List V} {ds : List D}, RepL K G vs ds → vs.length = ds.length
  | _, _, .nil => rfl
  | _, _, .cons _ t => congrArg Nat.succ (RepL.length t)
theorem RepL.append : ∀ {vs ws : List V} {ds es : List D}, RepL K G vs ds → RepL K G ws es → RepL K G (vs ++ ws) (ds ++ es)
  | _, _, _, _, .nil, h => h
  | _, _, _, _, .cons a b, h => .cons a (RepL.append b h)
theorem RepL.get : ∀ {vs : List V} {ds : List D} {i : Nat} {v : V}, RepL K G vs ds → vs[i]? = some v → ∃ d, ds[i]? = some d ∧ Rep K G v d
  | _, _, _, _, .nil, e => by simp at e
  | _, _, 0, _, .cons a _, e => by
    have e' := Option.some.inj (show some _ = some _ from e)
    subst e'
    exact ⟨_, rfl, a⟩
  | _, _, i + 1, v, .cons _ b, e => RepL.get (i := i) b (by simpa using e)
theorem RepL.getD : ∀ {vs : List V} {ds : List D} {i : Nat} {d : D}, RepL K G vs ds → ds[i]? = some d → ∃ v, vs[i]? = some v ∧ Rep K G v d
  | _, _, _, _, .nil, e => by simp at e
  | _, _, 0, _, .cons a _, e => by
    have e' := Option.some.inj (show some _ = some _ from e)
    subst e'
    exact ⟨_, rfl, a⟩
  | _, _, i + 1, v, .cons _ b, e => RepL.getD (i := i) b (by simpa using e)
theorem RepL.take : ∀ {vs : List V} {ds : List D} (n : Nat), RepL K G vs ds → RepL K G (vs.take n) (ds.take n)
  | _, _, 0, _ => .nil
  | _, _, _ + 1, .nil => .nil
  | _, _, n + 1, .cons a b => .cons a (RepL.take n b)
theorem RepL.drop : ∀ {vs : List V} {ds : List D} (n : Nat), RepL K G vs ds → RepL K G (vs.drop n) (ds.drop n)
  | _, _, 0, h => h
  | _, _, _ + 1, .nil => .nil
  | _, _, n + 1, .cons _ b => RepL.drop n b
theorem RepL.set {v : V} {d : D} (r : Rep K G v d) : ∀ {vs : List V} {ds : List D} (i : Nat), RepL K G vs ds → RepL K G (vs.set i v) (ds.set i d)
  | _, _, _, .nil => .nil
  | _, _, 0, .cons _ b => .cons r b
  | _, _, i + 1, .cons a b => .cons a (RepL.set r i b)
theorem RepL.reverse {vs : List V} {ds : List D} (h : RepL K G vs ds) : RepL K G vs.reverse ds.reverse := by
  induction vs generalizing ds with
  | nil => cases h; exact .nil
  | cons v vs ih =>
    cases h with
    | cons a b =>
      rw [List.reverse_cons, List.reverse_cons]
      exact (ih b).append (.cons a .nil)
theorem RepL.ints : ∀ {vs : List V} {ns : List Int}, RepL K G vs (ns.map D.int) → vs = ns.map V.int
  | vs, [], h => by cases h; rfl
  | vs, n :: ns, h => by
    cases h with
    | cons a b =>
      cases a
      rw [RepL.ints b] <;> rfl
theorem RepL.strs : ∀ {vs : List V} {xs : List (List Nat)}, RepL K G vs (xs.map D.str) → vs = (xs.map fun s => (⟨s.toArray⟩ : Str)).map V.str
  | vs, [], h => by cases h; rfl
  | vs, n :: ns, h => by
    cases h with
    | cons a b =>
      cases a
      rw [RepL.strs b] <;> rfl
end

/-! ### the running values -/
inductive B where
  | un
  | im (d : D)
  | ow (d : D)
  | io (d : D)
deriving Inhabited
def B.data : B → Option D
  | .un => none
  | .im d => some d
  | .ow d => some d
  | .io d => some d
def B.isOw : B → Bool
  | .ow _ => true
  | .io _ => true
  | _ => false
abbrev Env' := List B
inductive Rv where
  | pers (d : D)
  | bor (i : Nat)
def Rv.get (e : Env') : Rv → Option D
  | .pers d => some d
  | .bor i => (match e[i]? with
    | some b => (match b.data with
      | some (.lst l) => some (.lst l)
      | some (.dic k v) => some (.dic k v)
      | _ => none)
    | none => none)
def gets (e : Env') : List Rv → Option (List D)
  | [] => some []
  | r :: rs => (match r.get e with
    | some d => (match gets e rs with
      | some ds => some (d :: ds)
      | none => none)
    | none => none)
def Rv.settle (e : Env') : Rv → Option (D × Env')
  | .pers d => some (d, e)
  | .bor i => (match e[i]? with
    | some (.im d) => some (d, e)
    | some (.ow d) => some (d, e.set i (.im d))
    | _ => none)
def settles (e : Env') : List Rv → Option (List D × Env')
  | [] => some ([], e)
  | r :: rs => (match r.settle e with
    | some (d, e1) => (match settles e1 rs with
      | some (ds, e2) => some (d :: ds, e2)
      | none => none)
    | none => none)
/-- a value's truth -/
def truth : D → Option Bool
  | .non => some false
  | .bl b => some b
  | .int i => some (i != 0)
  | .str s => if s.length ≤ 16000000 then some (!s.isEmpty) else none
  | .tup l => some (!l.isEmpty)
  | .lst l => some (!l.isEmpty)
  | .dic _ _ => none
  | .scr _ => none
def D.flat : D → Bool
  | .non => true
  | .bl _ => true
  | .int _ => true
  | .str _ => true
  | _ => false
inductive Tg where
  | nm (i : Nat)
  | tp (l : List Tg)
mutual
def Tg.bind : Tg → D → Env' → Option Env'
  | .nm i, d, e => (match e[i]? with
    | some (.io _) => none
    | some _ => some (e.set i (.im d))
    | none => none)
  | .tp ts, .tup ds, e => Tg.binds ts ds e
  | .tp ts, .lst ds, e => Tg.binds ts ds e
  | .tp _, _, _ => none
def Tg.binds : List Tg → List D → Env' → Option Env'
  | [], [], e => some e
  | t :: ts, d :: ds, e => (match t.bind d e with
    | some e1 => Tg.binds ts ds e1
    | none => none)
  | _, _, _ => none
end
inductive Ex where
  | cst (d : D)
  | var (i : Nat)
  /-- a plain operation -/
  | op (f : List D → Option D) (as : List Ex)
  /-- something made of its parts -/
  | mk (f : List D → Option D) (as : List Ex)
  | call (φ : List D → Option D) (as : List Ex)
  /-- the first argument is the own thing at place i -/
  | callO (φ : List D → Option (D × D)) (i : Nat) (as : List Ex)
  /-- the arguments are only looked at; a flat answer -/
  | callB (φ : List D → Option D) (as : List Ex)
  | and_ (a b : Ex)
  | or_ (a b : Ex)
  | ite (c a b : Ex)
  /-- a < b < c -/
  | chain (f g : List D → Option D) (a b c : Ex)
  | chain3 (f g h : List D → Option D) (a b c d : Ex)
  | lc (g : List D → Option (List D)) (as : List Ex) (vs : List Nat) (tg : Tg) (cs : List Ex) (elt : Ex)
  | lc2 (g : List D → Option (List D)) (as : List Ex) (vs : List Nat) (tg : Tg) (cs1 : List Ex) (g2 : List D → Option (List D)) (as2 : List Ex) (vs1 : List Nat) (tg2 : Tg) (cs : List Ex) (elt : Ex)
  /-- a display, some parts starred -/
  | dsp (f : List D → Option D) (fl : List Bool) (as : List Ex)
def wipeE (e : Env') : List Nat → Env'
  | [] => e
  | v :: vs => (wipeE e vs).set v .un
/-- the outer values of the places vs again -/
def backE (e0 e : Env') : List Nat → Env'
  | [] => e
  | v :: vs => (match e0[v]? with
    | some b => (backE e0 e vs).set v b
    | none => backE e0 e vs)
def softE (e : Env') (vs : List Nat) : Bool := vs.all fun v => match e[v]? with
  | some b => !b.isOw
  | none => false
/-- turn by turn, collecting -/
def lcLoop (f : D → Env' → Option (List D × Env')) : List D → Env' → Option (List D × Env')
  | [], e => some ([], e)
  | d :: ds, e => (match f d e with
    | some (ys, e1) => (match lcLoop f ds e1 with
      | some (zs, e2) => some (ys ++ zs, e2)
      | none => none)
    | none => none)
/-- a turn of a comprehension: the tests t, the element f -/
def lcTurn (tg : Tg) (vs : List Nat) (t : Env' → Option (Bool × Env')) (f : Env' → Option (Rv × Env')) (d : D) (e : Env') : Option (List D × Env') := match tg.bind d e with
  | some e3 => (match t e3 with
    | some (true, e4) => (match f e4 with
      | some (r, e5) => (match r.settle e5 with
        | some (y, e6) => some ([y], wipeE e6 vs)
        | none => none)
      | none => none)
    | some (false, e4) => some ([], wipeE e4 vs)
    | none => none)
  | none => none
/-- a turn of the outer loop of two -/
def lc2Turn (tg : Tg) (vs vs1 : List Nat) (tg2 : Tg) (t1 : Env' → Option (Bool × Env')) (it : Env' → Option (List D × Env')) (t : Env' → Option (Bool × Env')) (f : Env' → Option (Rv × Env')) (d : D) (e : Env') : Option (List D × Env') := match tg.bind d e with
  | some e3 => (match t1 e3 with
    | some (true, e4) => (match it e4 with
      | some (items, e6) => if softE e6 vs1 then (match lcLoop (lcTurn tg2 vs1 t f) items (wipeE e6 vs1) with
        | some (ys, e7) => some (ys, wipeE e7 vs)
        | none => none) else none
      | none => none)
    | some (false, e4) => some ([], wipeE e4 vs)
    | none => none)
  | none => none
/-- the parts of a thing that is starred -/
def starD : D → Option (List D)
  | .lst l => some l
  | .tup l => some l
  | _ => none
def ownAt (e : Env') (i : Nat) : Bool := match e[i]? with
  | some b => b.isOw
  | none => false
def lstAt (e : Env') (i : Nat) : Bool := match e[i]? with
  | some (.ow (.lst _)) => true
  | some (.io (.lst _)) => true
  | _ => false
mutual
def ev : Ex → Env' → Option (Rv × Env')
  | .cst d, e => some (.pers d, e)
  | .var i, e => (match e[i]? with
    | some (.im d) => some (.pers d, e)
    | some (.ow _) => some (.bor i, e)
    | some (.io _) => some (.bor i, e)
    | _ => none)
  | .op f as, e => (match evs as e with
    | some (rs, e1) => (match gets e1 rs with
      | some ds => (match f ds with
        | some d => some (.pers d, e1)
        | none => none)
      | none => none)
    | none => none)
  | .mk f as, e => (match evs as e with
    | some (rs, e1) => (match settles e1 rs with
      | some (ds, e2) => (match f ds with
        | some d => some (.pers d, e2)
        | none => none)
      | none => none)
    | none => none)
  | .call φ as, e => (match evs as e with
    | some (rs, e1) => (match settles e1 rs with
      | some (ds, e2) => (match φ ds with
        | some d => some (.pers d, e2)
        | none => none)
      | none => none)
    | none => none)
  | .callO φ i as, e => if ownAt e i then (match evs as e with
    | some (rs, e1) => (match settles e1 rs with
      | some (ds, e2) => (match e2[i]? with
        | some (.ow d0) => (match φ (d0 :: ds) with
          | some (d, d1) => some (.pers d, e2.set i (.ow d1))
          | none => none)
        | some (.io d0) => (match φ (d0 :: ds) with
          | some (d, d1) => some (.pers d, e2.set i (.io d1))
          | none => none)
        | _ => none)
      | none => none)
    | none => none) else none
  | .callB φ as, e => (match evs as e with
    | some (rs, e1) => (match gets e1 rs with
      | some ds => (match φ ds with
        | some d => if d.flat then some (.pers d, e1) else none
        | none => none)
      | none => none)
    | none => none)
  | .and_ a b, e => (match ev a e with
    | some (r, e1) => (match r.get e1 with
      | some d => (match truth d with
        | some true => ev b e1
        | some false => some (r, e1)
        | none => none)
      | none => none)
    | none => none)
  | .or_ a b, e => (match ev a e with
    | some (r, e1) => (match r.get e1 with
      | some d => (match truth d with
        | some false => ev b e1
        | some true => some (r, e1)
        | none => none)
      | none => none)
    | none => none)
  | .ite c a b, e => (match ev c e with
    | some (r, e1) => (match r.get e1 with
      | some d => (match truth d with
        | some true => ev a e1
        | some false => ev b e1
        | none => none)
      | none => none)
    | none => none)
  | .chain f g a b c, e => (match ev a e with
    | some (ra, e1) => (match ev b e1 with
      | some (rb, e2) => (match gets e2 [ra, rb] with
        | some ds => (match f ds with
          | some (.bl true) => (match ev c e2 with
            | some (rc, e3) => (match gets e3 [rb, rc] with
              | some ds2 => (match g ds2 with
                | some d => some (.pers d, e3)
                | none => none)
              | none => none)
            | none => none)
          | some (.bl false) => some (.pers (.bl false), e2)
          | _ => none)
        | none => none)
      | none => none)
    | none => none)
  | .chain3 f g h a b c d, e => (match ev a e with
    | some (ra, e1) => (match ev b e1 with
      | some (rb, e2) => (match gets e2 [ra, rb] with
        | some ds => (match f ds with
          | some (.bl true) => (match ev c e2 with
            | some (rc, e3) => (match gets e3 [rb, rc] with
              | some ds2 => (match g ds2 with
                | some (.bl true) => (match ev d e3 with
                  | some (rd, e4) => (match gets e4 [rc, rd] with
                    | some ds3 => (match h ds3 with
                      | some z => some (.pers z, e4)
                      | none => none)
                    | none => none)
                  | none => none)
                | some (.bl false) => some (.pers (.bl false), e3)
                | _ => none)
              | none => none)
            | none => none)
          | some (.bl false) => some (.pers (.bl false), e2)
          | _ => none)
        | none => none)
      | none => none)
    | none => none)
  | .lc g as vs tg cs elt, e => (match evs as e with
    | some (rs, e1) => (match settles e1 rs with
      | some (ds, e2) => (match g ds with
        | some items => if softE e2 vs then (match lcLoop (lcTurn tg vs (fun e => evt cs e) (fun e => ev elt e)) items (wipeE e2 vs) with
          | some (ys, e7) => if ys.length ≤ 16000000 then some (.pers (.lst ys), backE e2 e7 vs) else none
          | none => none) else none
        | none => none)
      | none => none)
    | none => none)
  | .lc2 g as vs tg cs1 g2 as2 vs1 tg2 cs elt, e => (match evs as e with
    | some (rs, e1) => (match settles e1 rs with
      | some (ds, e2) => (match g ds with
        | some items => if softE e2 vs && vs1.all (fun i => vs.contains i) then (match lcLoop (lc2Turn tg vs vs1 tg2 (fun e => evt cs1 e) (fun e => match evs as2 e with
            | some (rs, e5) => (match settles e5 rs with
              | some (ds, e6) => (match g2 ds with
                | some l => some (l, e6)
                | none => none)
              | none => none)
            | none => none) (fun e => evt cs e) (fun e => ev elt e)) items (wipeE e2 vs) with
          | some (ys, e7) => if ys.length ≤ 16000000 then some (.pers (.lst ys), backE e2 e7 vs) else none
          | none => none) else none
        | none => none)
      | none => none)
    | none => none)
  | .dsp f fl as, e => (match evd fl as e with
    | some (ds, e1) => (match f ds with
      | some d => some (.pers d, e1)
      | none => none)
    | none => none)
/-- the parts of a display -/
def evd : List Bool → List Ex → Env' → Option (List D × Env')
  | _, [], e => some ([], e)
  | fl, a :: as, e => (match ev a e with
    | some (r, e1) => (match fl with
      | true :: fl => (match r.get e1 with
        | some d => (match starD d with
          | some l => (match evd fl as e1 with
            | some (ds, e2) => some (l ++ ds, e2)
            | none => none)
          | none => none)
        | none => none)
      | false :: fl => (match r.settle e1 with
        | some (d, e2) => (match evd fl as e2 with
          | some (ds, e3) => some (d :: ds, e3)
          | none => none)
        | none => none)
      | [] => none)
    | none => none)
def evs : List Ex → Env' → Option (List Rv × Env')
  | [], e => some ([], e)
  | a :: as, e => (match ev a e with
    | some (r, e1) => (match evs as e1 with
      | some (rs, e2) => some (r :: rs, e2)
      | none => none)
    | none => none)
/-- none or one test -/
def evt : List Ex → Env' → Option (Bool × Env')
  | [], e => some (true, e)
  | c :: _, e => (match ev c e with
    | some (r, e1) => (match r.get e1 with
      | some d => (match truth d with
        | some b => some (b, e1)
        | none => none)
      | none => none)
    | none => none)
end
inductive S where
  | skip
  | seq (a b : S)
  | set (tg : Tg) (x : Ex)
  | setO (i : Nat) (x : Ex)
  | par (i j : Nat) (a b : Ex)
  /-- names and values one by one; fl: which values are new things of one's own -/
  | parO (is : List Nat) (fl : List Bool) (xs : List Ex)
  | exp (x : Ex)
  | app (i : Nat) (x : Ex)
  | sub (f : D → D → D → Option D) (i : Nat) (k x : Ex)
  | iff (c : Ex) (a b : S)
  | forr (g : List D → Option (List D)) (as : List Ex) (tg : Tg) (b : S)
  | whil (n : Nat) (c : Ex) (b : S)
  | ret (x : Ex)
  | retN
  | retO (x : Ex)
  | retV (i : Nat)
  /-- x = f(.., x): the own thing x is moved in, an own thing comes back -/
  | mov (i : Nat) (φ : List D → Option D) (xs : List Ex)
  /-- a[k], b[l] = x -/
  | sub2 (f : D → D → D → Option D) (i : Nat) (k : Ex) (j : Nat) (l : Ex) (x : Ex)
  | brk
  | cnt
  | never
/-- values side by side, some of them one's own -/
def evo : List Bool → List Ex → Env' → Option (List D × Env')
  | _, [], e => some ([], e)
  | [], _ :: _, _ => none
  | true :: fl, x :: xs, e => (match ev x e with
    | some (.pers d, e1) => (match evo fl xs e1 with
      | some (ds, e2) => some (d :: ds, e2)
      | none => none)
    | _ => none)
  | false :: fl, x :: xs, e => (match ev x e with
    | some (r, e1) => (match r.settle e1 with
      | some (d, e2) => (match evo fl xs e2 with
        | some (ds, e3) => some (d :: ds, e3)
        | none => none)
      | none => none)
    | none => none)
/-- stored, the last one first -/
def storesO : List Nat → List Bool → List D → Env' → Option Env'
  | [], [], [], e => some e
  | i :: is, b :: fl, d :: ds, e => (match storesO is fl ds e with
    | some e1 => (match e1[i]? with
      | some (.io _) => none
      | some _ => some (e1.set i (if b then .ow d else .im d))
      | none => none)
    | none => none)
  | _, _, _, _ => none
inductive Out where
  | nx (e : Env')
  | rt (d : D) (e : Env')
  /-- an own thing is given back -/
  | ro (d : D) (e : Env')
  | bk (e : Env')
  | ct (e : Env')
def forLoop (f : D → Env' → Option Out) : List D → Env' → Option Out
  | [], e => some (.nx e)
  | d :: ds, e => (match f d e with
    | some (.nx e1) => forLoop f ds e1
    | some (.ct e1) => forLoop f ds e1
    | some (.bk e1) => some (.nx e1)
    | some (.rt v e1) => some (.rt v e1)
    | some (.ro v e1) => some (.ro v e1)
    | none => none)
def whileLoop (c : Env' → Option (Bool × Env')) (f : Env' → Option Out) : Nat → Env' → Option Out
  | 0, _ => none
  | n + 1, e => (match c e with
    | some (false, e1) => some (.nx e1)
    | some (true, e1) => (match f e1 with
      | some (.nx e2) => whileLoop c f n e2
      | some (.ct e2) => whileLoop c f n e2
      | some (.bk e2) => some (.nx e2)
      | some (.rt v e2) => some (.rt v e2)
      | some (.ro v e2) => some (.ro v e2)
      | none => none)
    | none => none)
def D.isObj : D → Bool
  | .lst _ => true
  | .dic _ _ => true
  | _ => false
/-- one store at a place of an own thing -/
def storeD (f : D → D → D → Option D) (i : Nat) (k : Ex) (d : D) (e : Env') : Option Env' := if ownAt e i then (match ev k e with
  | some (r, e1) => (match r.settle e1 with
    | some (kd, e2) => (match e2[i]? with
      | some (.ow o) => (match f o kd d with
        | some o' => some (e2.set i (.ow o'))
        | none => none)
      | some (.io o) => (match f o kd d with
        | some o' => some (e2.set i (.io o'))
        | none => none)
      | _ => none)
    | none => none)
  | none => none) else none
def ex : S → Env' → Option Out
  | .skip, e => some (.nx e)
  | .seq a b, e => (match ex a e with
    | some (.nx e1) => ex b e1
    | some o => some o
    | none => none)
  | .set tg x, e => (match ev x e with
    | some (r, e1) => (match r.settle e1 with
      | some (d, e2) => (match tg.bind d e2 with
        | some e3 => some (.nx e3)
        | none => none)
      | none => none)
    | none => none)
  | .setO i x, e => (match ev x e with
    | some (.pers d, e1) => (match e1[i]? with
      | some (.io _) => none
      | some _ => some (.nx (e1.set i (.ow d)))
      | none => none)
    | _ => none)
  | .par i j a b, e => (match evs [a, b] e with
    | some (rs, e1) => (match settles e1 rs with
      | some ([x, y], e2) => (match Tg.binds [.nm i, .nm j] [x, y] e2 with
        | some e3 => some (.nx e3)
        | none => none)
      | _ => none)
    | none => none)
  | .parO is fl xs, e => (match evo fl xs e with
    | some (ds, e1) => (match storesO is fl ds e1 with
      | some e2 => some (.nx e2)
      | none => none)
    | none => none)
  | .exp x, e => (match ev x e with
    | some (_, e1) => some (.nx e1)
    | none => none)
  | .app i x, e => if lstAt e i then (match ev x e with
    | some (r, e1) => (match r.settle e1 with
      | some (d, e2) => (match e2[i]? with
        | some (.ow (.lst l)) => if l.length < 16000000 then some (.nx (e2.set i (.ow (.lst (l ++ [d]))))) else none
        | some (.io (.lst l)) => if l.length < 16000000 then some (.nx (e2.set i (.io (.lst (l ++ [d]))))) else none
        | _ => none)
      | none => none)
    | none => none) else none
  | .sub f i k x, e => if ownAt e i then (match evs [x, k] e with
    | some (rs, e1) => (match settles e1 rs with
      | some ([d, kd], e2) => (match e2[i]? with
        | some (.ow o) => (match f o kd d with
          | some o' => some (.nx (e2.set i (.ow o')))
          | none => none)
        | some (.io o) => (match f o kd d with
          | some o' => some (.nx (e2.set i (.io o')))
          | none => none)
        | _ => none)
      | _ => none)
    | none => none) else none
  | .iff c a b, e => (match ev c e with
    | some (r, e1) => (match r.get e1 with
      | some d => (match truth d with
        | some true => ex a e1
        | some false => ex b e1
        | none => none)
      | none => none)
    | none => none)
  | .forr g as tg b, e => (match evs as e with
    | some (rs, e1) => (match settles e1 rs with
      | some (ds, e2) => (match g ds with
        | some items => forLoop (fun d e => match tg.bind d e with
          | some e3 => ex b e3
          | none => none) items e2
        | none => none)
      | none => none)
    | none => none)
  | .whil n c b, e => whileLoop (fun e => match ev c e with
      | some (r, e1) => (match r.get e1 with
        | some d => (match truth d with
          | some t => some (t, e1)
          | none => none)
        | none => none)
      | none => none) (fun e => ex b e) n e
  | .ret x, e => (match ev x e with
    | some (r, e1) => (match r.settle e1 with
      | some (d, e2) => some (.rt d e2)
      | none => none)
    | none => none)
  | .retN, e => some (.rt .non e)
  | .retO x, e => (match ev x e with
    | some (.pers d, e1) => some (.ro d e1)
    | _ => none)
  | .retV i, e => (match e[i]? with
    | some (.ow d) => some (.ro d e)
    | _ => none)
  | .mov i φ xs, e => (match evs xs e with
    | some (rs, e1) => (match settles e1 rs with
      | some (ds, e2) => (match e2[i]? with
        | some (.ow d0) => (match φ (ds ++ [d0]) with
          | some d => some (.nx (e2.set i (.ow d)))
          | none => none)
        | _ => none)
      | none => none)
    | none => none)
  | .sub2 f i k j l x, e => (match ev x e with
    | some (r, e1) => (match r.settle e1 with
      | some (d, e2) => (match d with
        | .tup [d1, d2] => (match storeD f i k d1 e2 with
          | some e3 => (match storeD f j l d2 e3 with
            | some e4 => some (.nx e4)
            | none => none)
          | none => none)
        | _ => none)
      | none => none)
    | none => none)
  | .brk, e => some (.bk e)
  | .cnt, e => some (.ct e)
  | .never, _ => none
end Mi

/-! What holds of the heap while such a program runs. -/
namespace Mi
open PySem PySem.Spec PyProof.Rows L2 GxR
structure Cfg where
  K : Frag
  tt : List Addr
def SlotOk (C : Cfg) (F G H : Hp) (s : Option (Option V)) : B → Prop
  | .un => True
  | .im d => ∃ v, s = some (some v) ∧ Rep C.K G v d
  | .ow d => ∃ p o, s = some (some (.ref p)) ∧ G p = none ∧ F p = none ∧ p ∉ C.tt ∧ H p = some o ∧ RepO C.K G o d
  | .io d => ∃ p o, s = some (some (.ref p)) ∧ G p = none ∧ F p = none ∧ p ∉ C.tt ∧ H p = some o ∧ RepO C.K G o d
def Own (σ : St) (e : Env') (i : Nat) (p : Addr) : Prop := σ[i]? = some (some (.ref p)) ∧ ∃ b, e[i]? = some b ∧ b.isOw = true
/-- no tuple -/
def NT (o : Option HO) : Prop := ∀ xs, o ≠ some (.tup xs)
structure Rel (C : Cfg) (F G0 G H : Hp) (pn : Option (Nat × Addr)) (σ : St) (e : Env') : Prop where
  fh : Same F H
  gh : Same G H
  gf : ∀ p, F p ≠ none → NT (F p) → G p = G0 p
  tb : ∀ P ∈ C.tt, TabG H P ∧ G P = none ∧ F P = none
  sl : ∀ (i : Nat) (b : B), e[i]? = some b → SlotOk C F G H σ[i]? b
  ap : ∀ i j p, Own σ e i p → Own σ e j p → i = j
  pi : ∀ i p, pn = some (i, p) → σ[i]? = some (some (.ref p)) ∧ ∃ d, e[i]? = some (.io d)
  ln : σ.length = e.length
structure Grow (C : Cfg) (G H G' H' : Hp) : Prop where
  gg : Same G G'
  gh : Same G' H'
  hh : ∀ p, H p ≠ none → p ∉ C.tt → H' p = H p
  go : ∀ p, H p ≠ none → NT (H p) → G' p = G p
  tb : ∀ P ∈ C.tt, TabG H' P
def RepR (K : Frag) (G : Hp) (σ : St) (e : Env') (r : Rv) (v : V) : Prop := match r with
  | .pers d => Rep K G v d
  | .bor i => σ[i]? = some (some v) ∧ ∃ (b : B) (d : D), e[i]? = some b ∧ b.data = some d
/-- the outermost thing stands in H, its parts in G -/
inductive RepT (K : Frag) (G H : Hp) : V → D → Prop
  | non : RepT K G H .non .non
  | bl (b : Bool) : RepT K G H (.bl b) (.bl b)
  | int (i : Int) : RepT K G H (.int i) (.int i)
  | str (s : List Nat) : RepT K G H (.str ⟨s.toArray⟩) (.str s)
  | tup {a : Addr} {xs : List V} {ds : List D} : G a = some (.tup xs) → H a = some (.tup xs) → RepL K G xs ds → RepT K G H (.ref a) (.tup ds)
  | lst {a : Addr} {xs : List V} {ds : List D} : H a = some (.lst xs) → RepL K G xs ds → RepT K G H (.ref a) (.lst ds)
  | scr {a : Addr} {ns : List Int} : SqL K H a (ns.map V.int) → RepT K G H (.ref a) (.scr ns)
  | dK {a : Addr} {kvs : List (Key × V)} {ks vs : List D} : Rd H a (.dK kvs) → ks = kvs.map (fun q => keyD q.1) → RepL K G (kvs.map (·.2)) vs → RepT K G H (.ref a) (.dic ks vs)
  | dT {a : Addr} {kvs : List (List Key × V)} {ks vs : List D} : Rd H a (.dT kvs) → ks = .non :: kvs.map (fun q => D.tup (q.1.map keyD)) → RepL K G (kvs.map (·.2)) vs → RepT K G H (.ref a) (.dic ks vs)
section
variable {C : Cfg} {F G0 G G' H H' : Hp} {pn : Option (Nat × Addr)} {σ : St} {e e' : Env'} {v : V} {d : D}
theorem Rep.top (s : Same G H) (h : Rep C.K G v d) : RepT C.K G H v d := by
  cases h with
  | non => exact .non
  | bl b => exact .bl b
  | int i => exact .int i
  | str s => exact .str s
  | tup q r => exact .tup q (s _ _ q) r
  | lst q r => exact .lst (s _ _ q) r
  | scr q => exact .scr (s.seq q)
  | dK q e r => exact .dK (s.rd q) e r
  | dT q e r => exact .dT (s.rd q) e r
theorem RepT.all (s : Same G H) (h : RepT C.K G H v d) : Rep C.K H v d := by
  cases h with
  | non => exact .non
  | bl b => exact .bl b
  | int i => exact .int i
  | str s => exact .str s
  | tup g q r => exact .tup q (r.mono s)
  | lst q r => exact .lst q (r.mono s)
  | scr q => exact .scr q
  | dK q e r => exact .dK q e (r.mono s)
  | dT q e r => exact .dT q e (r.mono s)
theorem RepT.flat (f : d.flat = true) (h : RepT C.K G H v d) (G' : Hp) : Rep C.K G' v d := by
  cases h with
  | non => exact .non
  | bl b => exact .bl b
  | int i => exact .int i
  | str s => exact .str s
  | tup g q r => cases f
  | lst q r => cases f
  | scr q => cases f
  | dK q e r => cases f
  | dT q e r => cases f
theorem Rep.flat (f : d.flat = true) (h : Rep C.K G v d) (G' : Hp) : Rep C.K G' v d := by
  cases h with
  | non => exact .non
  | bl b => exact .bl b
  | int i => exact .int i
  | str s => exact .str s
  | tup q r => cases f
  | lst q r => cases f
  | scr q => cases f
  | dK q e r => cases f
  | dT q e r => cases f
theorem Grow.refl (s : Same G H) (t : ∀ P ∈ C.tt, TabG H P) : Grow C G H G H := ⟨Same.refl G, s, fun _ _ _ => rfl, fun _ _ _ => rfl, t⟩
theorem tabG_nt {P : Addr} (h : TabG H P) : NT (H P) := fun xs z => by
  obtain ⟨ps, e, _⟩ := h
  rw [e] at z; cases z
theorem repO_nt {p : Addr} {o : HO} (h : H p = some o) (r : RepO C.K G o d) : NT (H p) := fun xs z => by
  rw [h] at z
  cases z
  cases r
theorem tabG_some {P : Addr} (h : TabG H P) : H P ≠ none := by
  obtain ⟨ps, e, _⟩ := h
  rw [e]; exact fun z => nomatch z
theorem Rel.tabs (R : Rel C F G0 G H pn σ e) : ∀ P ∈ C.tt, TabG H P := fun P h => (R.tb P h).1
/-- something new is laid, known from now on -/
theorem grow_new {p : Addr} {o : HO} (s : Same G H) (t : ∀ P ∈ C.tt, TabG H P) (hp : H p = none) : Grow C G H (upd G p o) (upd H p o) := by
  have gp : G p = none := s.free hp
  refine ⟨fun b u h => by rw [upd_ne (ne_of_none h gp)]; exact h, fun b u h => ?_, fun b h _ => ?_, fun b h _ => ?_, fun P hP => ?_⟩
  · by_cases e : b = p
    · rw [e, upd_same] at h; rw [e, upd_same]; exact h
    · rw [upd_ne e] at h ⊢; exact s b u h
  · exact upd_ne (fun e => h (e ▸ hp))
  · exact upd_ne (fun e => h (e ▸ hp))
  · obtain ⟨ps, e, h⟩ := t P hP
    exact ⟨ps, by rw [upd_ne (ne_of_none e hp)]; exact e, h⟩
/-- something new is laid, known to nobody yet -/
theorem grow_own {p : Addr} {o : HO} (s : Same G H) (t : ∀ P ∈ C.tt, TabG H P) (hp : H p = none) : Grow C G H G (upd H p o) := by
  have gp : G p = none := s.free hp
  refine ⟨Same.refl G, fun b u h => by rw [upd_ne (ne_of_none h gp)]; exact s b u h, fun b h _ => upd_ne (fun e => h (e ▸ hp)), fun b _ _ => rfl, fun P hP => ?_⟩
  obtain ⟨ps, e, h⟩ := t P hP
  exact ⟨ps, by rw [upd_ne (ne_of_none e hp)]; exact e, h⟩
theorem Rel.grow (R : Rel C F G0 G H pn σ e) (g : Grow C G H G' H') : Rel C F G0 G' H' pn σ e := by
  have fs : ∀ p, F p ≠ none → H p ≠ none := fun p h => by
    cases q : F p with
    | none => exact absurd q h
    | some o => rw [R.fh p o q]; exact fun z => nomatch z
  have fe : ∀ p, F p ≠ none → H p = F p := fun p h => by
    cases q : F p with
    | none => exact absurd q h
    | some o => exact R.fh p o q
  refine ⟨fun p o h => ?_, g.gh, fun p h hn => by rw [g.go p (fs p h) (by rw [fe p h]; exact hn)]; exact R.gf p h hn, fun P hP => ⟨g.tb P hP, ?_, (R.tb P hP).2.2⟩, fun i b hb => ?_, R.ap, R.pi, R.ln⟩
  · have hne : p ∉ C.tt := fun z => by rw [(R.tb p z).2.2] at h; cases h
    rw [g.hh p (by rw [R.fh p o h]; exact fun z => nomatch z) hne]
    exact R.fh p o h
  · rw [g.go P (tabG_some (R.tb P hP).1) (tabG_nt (R.tb P hP).1)]; exact (R.tb P hP).2.1
  · have q := R.sl i b hb
    have ow : ∀ {p : Addr} {o : HO} {d : D}, G p = none → F p = none → p ∉ C.tt → H p = some o → RepO C.K G o d → G' p = none ∧ H' p = some o ∧ RepO C.K G' o d := fun {p o d} h1 h2 h3 h4 h5 => by
      have hs : H p ≠ none := by rw [h4]; exact fun z => nomatch z
      exact ⟨by rw [g.go p hs (repO_nt h4 h5)]; exact h1, by rw [g.hh p hs h3]; exact h4, h5.mono g.gg⟩
    cases b with
    | un => trivial
    | im d =>
      obtain ⟨v, h1, h2⟩ := q
      exact ⟨v, h1, h2.mono g.gg⟩
    | ow d =>
      obtain ⟨p, o, h0, h1, h2, h3, h4, h5⟩ := q
      obtain ⟨k1, k2, k3⟩ := ow h1 h2 h3 h4 h5
      exact ⟨p, o, h0, k1, h2, h3, k2, k3⟩
    | io d =>
      obtain ⟨p, o, h0, h1, h2, h3, h4, h5⟩ := q
      obtain ⟨k1, k2, k3⟩ := ow h1 h2 h3 h4 h5
      exact ⟨p, o, h0, k1, h2, h3, k2, k3⟩
theorem RepR.mono (s : Same G G') {r : Rv} (h : RepR C.K G σ e r v) : RepR C.K G' σ e r v := by
  cases r with
  | pers d => exact Rep.mono s d v h
  | bor i => exact h
/-- the places keep having values -/
def Kept (e e' : Env') : Prop := ∀ (i : Nat) (b : B) (d : D), e[i]? = some b → b.data = some d → ∃ (b' : B) (d' : D), e'[i]? = some b' ∧ b'.data = some d'
theorem Kept.refl (e : Env') : Kept e e := fun i b d h q => ⟨b, d, h, q⟩
theorem Kept.trans {e1 e2 e3 : Env'} (a : Kept e1 e2) (b : Kept e2 e3) : Kept e1 e3 := fun i x d h q => by
  obtain ⟨y, d', h', q'⟩ := a i x d h q
  exact b i y d' h' q'
theorem Kept.set {b : B} {d : D} {i : Nat} (hb : b.data = some d) : Kept e (e.set i b) := fun j x d' h q => by
  by_cases hj : i = j
  · subst hj
    refine ⟨b, d, ?_, hb⟩
    rw [List.getElem?_set_self (List.getElem?_eq_some_iff.mp h).1]
  · exact ⟨x, d', by rw [List.getElem?_set_ne hj]; exact h, q⟩
theorem RepR.env {r : Rv} (k : Kept e e') (h : RepR C.K G σ e r v) : RepR C.K G σ e' r v := by
  cases r with
  | pers d => exact h
  | bor i =>
    obtain ⟨h1, b, d, h2, h3⟩ := h
    obtain ⟨b', d', h4, h5⟩ := k i b d h2 h3
    exact ⟨h1, b', d', h4, h5⟩
theorem repO_top {a : Addr} {o : HO} (h : H a = some o) (r : RepO C.K G o d) : RepT C.K G H (.ref a) d := by
  cases r with
  | lst r => exact .lst h r
  | dK e r => exact .dK (.inl h) e r
  | dT e r => exact .dT (.inl h) e r
theorem Rel.get (R : Rel C F G0 G H pn σ e) {r : Rv} (h : RepR C.K G σ e r v) (g : r.get e = some d) : RepT C.K G H v d := by
  cases r with
  | pers d' =>
    have q : d' = d := Option.some.inj g
    subst q
    exact Rep.top R.gh h
  | bor i =>
    obtain ⟨h1, b, d', h2, h3⟩ := h
    have q := R.sl i b h2
    have g' : b.data = some d := by
      have g2 : (match e[i]? with
        | some b => (match b.data with
          | some (.lst l) => some (.lst l)
          | some (.dic k v) => some (.dic k v)
          | _ => none)
        | none => none) = some d := g
      rw [h2] at g2
      dsimp only at g2
      split at g2
      · rename_i l hl; rw [hl]; exact g2
      · rename_i k v hl; rw [hl]; exact g2
      · cases g2
    rw [h1] at q
    cases b with
    | un => cases g'
    | im d2 =>
      cases g'
      obtain ⟨v2, e2, r2⟩ := q
      cases e2
      exact Rep.top R.gh r2
    | ow d2 =>
      cases g'
      obtain ⟨p, o, e2, _, _, _, h4, h5⟩ := q
      cases e2
      exact repO_top h4 h5
    | io d2 =>
      cases g'
      obtain ⟨p, o, e2, _, _, _, h4, h5⟩ := q
      cases e2
      exact repO_top h4 h5
theorem get_flat {r : Rv} (h : r.get e = some d) (f : d.flat = true) : r = .pers d := by
  cases r with
  | pers x => cases h; rfl
  | bor i =>
    have g2 : (match e[i]? with
      | some b => (match b.data with
        | some (.lst l) => some (.lst l)
        | some (.dic k v) => some (.dic k v)
        | _ => none)
      | none => none) = some d := h
    split at g2
    · split at g2
      · cases g2; cases f
      · cases g2; cases f
      · cases g2
    · cases g2
inductive RepRs (K : Frag) (G : Hp) (σ : St) (e : Env') : List Rv → List V → Prop
  | nil : RepRs K G σ e [] []
  | cons {r : Rv} {v : V} {rs : List Rv} {vs : List V} : RepR K G σ e r v → RepRs K G σ e rs vs → RepRs K G σ e (r :: rs) (v :: vs)
inductive RepTs (K : Frag) (G H : Hp) : List V → List D → Prop
  | nil : RepTs K G H [] []
  | cons {v : V} {d : D} {vs : List V} {ds : List D} : RepT K G H v d → RepTs K G H vs ds → RepTs K G H (v :: vs) (d :: ds)
theorem RepRs.mono (s : Same G G') : ∀ {rs : List Rv} {vs : List V}, RepRs C.K G σ e rs vs → RepRs C.K G' σ e rs vs
  | _, _, .nil => .nil
  | _, _, .cons a b => .cons (a.mono s) (b.mono s)
theorem RepRs.env (k : Kept e e') : ∀ {rs : List Rv} {vs : List V}, RepRs C.K G σ e rs vs → RepRs C.K G σ e' rs vs
  | _, _, .nil => .nil
  | _, _, .cons a b => .cons (a.env k) (b.env k)
theorem Rel.gets (R : Rel C F G0 G H pn σ e) : ∀ {rs : List Rv} {vs : List V} {ds : List D}, RepRs C.K G σ e rs vs → Mi.gets e rs = some ds → RepTs C.K G H vs ds
  | [], _, ds, h, g => by
    cases h
    cases g
    exact .nil
  | r :: rs, _, ds, h, g => by
    cases h with
    | cons a b =>
      unfold Mi.gets at g
      cases q : r.get e with
      | none => rw [q] at g; cases g
      | some d =>
        rw [q] at g
        cases q2 : Mi.gets e rs with
        | none => rw [q2] at g; cases g
        | some ds' =>
          rw [q2] at g
          cases g
          exact .cons (R.get a q) (Rel.gets R b q2)
/-- an own thing is made known -/
theorem Rel.freeze (R : Rel C F G0 G H pn σ e) {i : Nat} {p : Addr} (hs : σ[i]? = some (some (.ref p))) (he : e[i]? = some (.ow d)) :
    ∃ G', Same G G' ∧ Rel C F G0 G' H pn σ (e.set i (.im d)) ∧ Rep C.K G' (.ref p) d := by
  have q := R.sl i _ he
  rw [hs] at q
  obtain ⟨p', o, e2, h1, h2, h3, h4, h5⟩ := q
  cases e2
  have hi : i < e.length := (List.getElem?_eq_some_iff.mp he).1
  have s : Same G (upd G p o) := fun b u h => by rw [upd_ne (ne_of_none h h1)]; exact h
  have rp : Rep C.K (upd G p o) (.ref p) d := by
    have q : Same (upd G p o) H := fun b u h => by
      by_cases e : b = p
      · rw [e, upd_same] at h; rw [e, h4]; exact h
      · rw [upd_ne e] at h; exact R.gh b u h
    cases h5 with
    | lst r => exact .lst upd_same (r.mono s)
    | dK e r => exact .dK (.inl upd_same) e (r.mono s)
    | dT e r => exact .dT (.inl upd_same) e (r.mono s)
  have ow0 : Own σ e i p := ⟨hs, _, he, rfl⟩
  refine ⟨upd G p o, s, ⟨R.fh, fun b u h => ?_, fun b h hn => ?_, fun P hP => ⟨(R.tb P hP).1, ?_, (R.tb P hP).2.2⟩, fun j b hb => ?_, fun j k a ⟨a1, b1, a2, a3⟩ ⟨b1', b2, b3, b4⟩ => ?_, fun j a ha => ?_, by rw [List.length_set]; exact R.ln⟩, rp⟩
  · by_cases e : b = p
    · rw [e, upd_same] at h; rw [e, h4]; exact h
    · rw [upd_ne e] at h; exact R.gh b u h
  · rw [upd_ne (fun z => h (by rw [z]; exact h2))]; exact R.gf b h hn
  · rw [upd_ne (fun z => h3 (by rw [← z]; exact hP))]; exact (R.tb P hP).2.1
  · by_cases hj : i = j
    · subst hj
      rw [List.getElem?_set_self hi] at hb
      cases hb
      exact ⟨_, hs, rp⟩
    · rw [List.getElem?_set_ne hj] at hb
      have q := R.sl j b hb
      have far : ∀ {p' : Addr}, σ[j]? = some (some (.ref p')) → b.isOw = true → p' ≠ p := fun {p'} a1 a2 z => by
        subst z
        exact hj (R.ap i j p' ow0 ⟨a1, b, hb, a2⟩)
      cases b with
      | un => trivial
      | im d' =>
        obtain ⟨v, k1, k2⟩ := q
        exact ⟨v, k1, k2.mono s⟩
      | ow d' =>
        obtain ⟨p', o', k0, k1, k2, k3, k4, k5⟩ := q
        exact ⟨p', o', k0, by rw [upd_ne (far k0 rfl)]; exact k1, k2, k3, k4, k5.mono s⟩
      | io d' =>
        obtain ⟨p', o', k0, k1, k2, k3, k4, k5⟩ := q
        exact ⟨p', o', k0, by rw [upd_ne (far k0 rfl)]; exact k1, k2, k3, k4, k5.mono s⟩
  · have back : ∀ {j : Nat} {b : B}, (e.set i (.im d))[j]? = some b → b.isOw = true → e[j]? = some b := fun {j b} hb ho => by
      by_cases hj : i = j
      · subst hj
        rw [List.getElem?_set_self hi] at hb
        cases hb
        cases ho
      · rw [List.getElem?_set_ne hj] at hb; exact hb
    exact R.ap j k a ⟨a1, b1, back a2 a3, a3⟩ ⟨b1', b2, back b3 b4, b4⟩
  · obtain ⟨k1, d', k2⟩ := R.pi j a ha
    refine ⟨k1, d', ?_⟩
    rw [List.getElem?_set_ne ?_]
    · exact k2
    · intro z
      subst z
      rw [he] at k2
      cases k2
theorem Rel.settle (R : Rel C F G0 G H pn σ e) {r : Rv} (h : RepR C.K G σ e r v) (g : r.settle e = some (d, e')) :
    ∃ G', Same G G' ∧ Rel C F G0 G' H pn σ e' ∧ Rep C.K G' v d ∧ Kept e e' := by
  cases r with
  | pers d' =>
    cases g
    exact ⟨G, Same.refl G, R, h, Kept.refl e⟩
  | bor i =>
    obtain ⟨h1, b, d', h2, h3⟩ := h
    have g' : (match e[i]? with
      | some (.im d) => some (d, e)
      | some (.ow d) => some (d, e.set i (.im d))
      | _ => none) = some (d, e') := g
    rw [h2] at g'
    have q := R.sl i b h2
    rw [h1] at q
    cases b with
    | un => cases g'
    | im d2 =>
      cases g'
      obtain ⟨v2, e2, r2⟩ := q
      cases e2
      exact ⟨G, Same.refl G, R, r2, Kept.refl e⟩
    | ow d2 =>
      cases g'
      obtain ⟨p, o, e2, _⟩ := q
      cases e2
      obtain ⟨G', s, R', rp⟩ := R.freeze h1 h2
      exact ⟨G', s, R', rp, Kept.set rfl⟩
    | io d2 => cases g'
theorem Rel.settles : ∀ {rs : List Rv} {vs : List V} {ds : List D} {e' : Env'} {G : Hp} {e : Env'}, Rel C F G0 G H pn σ e → RepRs C.K G σ e rs vs → Mi.settles e rs = some (ds, e') →
    ∃ G', Same G G' ∧ Rel C F G0 G' H pn σ e' ∧ RepL C.K G' vs ds ∧ Kept e e'
  | [], _, _, _, G, e, R, h, g => by
    cases h
    cases g
    exact ⟨G, Same.refl G, R, .nil, Kept.refl _⟩
  | r :: rs, _, ds, e', G, e, R, h, g => by
    cases h with
    | cons a b =>
      unfold Mi.settles at g
      cases q : r.settle e with
      | none => rw [q] at g; cases g
      | some x =>
        obtain ⟨d, e1⟩ := x
        rw [q] at g
        cases q2 : Mi.settles e1 rs with
        | none => simp only [q2] at g; cases g
        | some y =>
          obtain ⟨ds', e2⟩ := y
          simp only [q2] at g
          cases g
          obtain ⟨G1, s1, R1, r1, k1⟩ := R.settle a q
          obtain ⟨G2, s2, R2, r2, k2⟩ := Rel.settles R1 ((b.mono s1).env k1) q2
          exact ⟨G2, s1.trans s2, R2, .cons (r1.mono s2) r2, k1.trans k2⟩
end
end Mi

/-! Expressions. -/
namespace Mi
open PySem PySem.Spec PyProof.Rows L2 GxR
/-! ### places keep their values -/
def KeptOff (vs : List Nat) (e e' : Env') : Prop := ∀ (i : Nat), i ∉ vs → ∀ (b : B) (d : D), e[i]? = some b → b.data = some d → ∃ (b' : B) (d' : D), e'[i]? = some b' ∧ b'.data = some d'
theorem Kept.off {e e' : Env'} (k : Kept e e') (vs : List Nat) : KeptOff vs e e' := fun i _ b d h q => k i b d h q
theorem KeptOff.trans {vs : List Nat} {a b c : Env'} (h : KeptOff vs a b) (g : KeptOff vs b c) : KeptOff vs a c := fun i hi x d h1 h2 => by
  obtain ⟨y, d', h3, h4⟩ := h i hi x d h1 h2
  exact g i hi y d' h3 h4
theorem wipeE_off {e : Env'} {i : Nat} : ∀ {vs : List Nat}, i ∉ vs → (wipeE e vs)[i]? = e[i]?
  | [], _ => rfl
  | v :: vs, h => by
    unfold wipeE
    have h' : i ≠ v ∧ i ∉ vs := ⟨fun z => h (by rw [z]; exact List.mem_cons_self), fun z => h (List.mem_cons_of_mem _ z)⟩
    rw [List.getElem?_set_ne (fun z => h'.1 z.symm)]
    exact wipeE_off h'.2
theorem wipeE_len {e : Env'} : ∀ vs : List Nat, (wipeE e vs).length = e.length
  | [] => rfl
  | v :: vs => by unfold wipeE; rw [List.length_set]; exact wipeE_len vs
theorem wipeE_in {e : Env'} {i : Nat} {b : B} : ∀ {vs : List Nat}, i ∈ vs → (wipeE e vs)[i]? = some b → b = .un
  | v :: vs, h, q => by
    unfold wipeE at q
    by_cases hv : v = i
    · subst hv
      have hl := (List.getElem?_eq_some_iff.mp q).1
      rw [List.length_set] at hl
      rw [List.getElem?_set_self hl] at q
      exact (Option.some.inj q).symm
    · rw [List.getElem?_set_ne hv] at q
      rcases List.mem_cons.mp h with z | z
      · exact absurd z.symm hv
      · exact wipeE_in z q
theorem wipeE_kept {e : Env'} (vs : List Nat) : KeptOff vs e (wipeE e vs) := fun i hi b d h q => ⟨b, d, by rw [wipeE_off hi]; exact h, q⟩
theorem backE_off {e0 e : Env'} {i : Nat} : ∀ {vs : List Nat}, i ∉ vs → (backE e0 e vs)[i]? = e[i]?
  | [], _ => rfl
  | v :: vs, h => by
    have h' : i ≠ v ∧ i ∉ vs := ⟨fun z => h (by rw [z]; exact List.mem_cons_self), fun z => h (List.mem_cons_of_mem _ z)⟩
    unfold backE
    cases q : e0[v]? with
    | none => exact backE_off h'.2
    | some b =>
      show ((backE e0 e vs).set v b)[i]? = e[i]?
      rw [List.getElem?_set_ne (fun z => h'.1 z.symm)]
      exact backE_off h'.2
theorem backE_len {e0 e : Env'} : ∀ vs : List Nat, (backE e0 e vs).length = e.length
  | [] => rfl
  | v :: vs => by
    unfold backE
    cases q : e0[v]? with
    | none => exact backE_len vs
    | some b =>
      show ((backE e0 e vs).set v b).length = e.length
      rw [List.length_set]
      exact backE_len vs
theorem backE_in {e0 e : Env'} {i : Nat} {b : B} (hl : e0.length = e.length) : ∀ {vs : List Nat}, i ∈ vs → e0[i]? = some b → (backE e0 e vs)[i]? = some b
  | v :: vs, h, q => by
    have hi : i < e.length := by rw [← hl]; exact (List.getElem?_eq_some_iff.mp q).1
    unfold backE
    by_cases hv : v = i
    · subst hv
      rw [q]
      show ((backE e0 e vs).set v b)[v]? = some b
      rw [List.getElem?_set_self (by rw [backE_len]; exact hi)]
    · rcases List.mem_cons.mp h with z | z
      · exact absurd z.symm hv
      · cases q2 : e0[v]? with
        | none => exact backE_in hl z q
        | some b2 =>
          show ((backE e0 e vs).set v b2)[i]? = some b
          rw [List.getElem?_set_ne hv]
          exact backE_in hl z q
theorem settle_kept {e e' : Env'} {r : Rv} {d : D} (h : r.settle e = some (d, e')) : Kept e e' ∧ e'.length = e.length := by
  cases r with
  | pers x => cases h; exact ⟨Kept.refl e, rfl⟩
  | bor i =>
    have g' : (match e[i]? with
      | some (.im d) => some (d, e)
      | some (.ow d) => some (d, e.set i (.im d))
      | _ => none) = some (d, e') := h
    cases q : e[i]? with
    | none => rw [q] at g'; cases g'
    | some b =>
      rw [q] at g'
      cases b with
      | un => cases g'
      | im x => cases g'; exact ⟨Kept.refl e, rfl⟩
      | ow x => cases g'; exact ⟨Kept.set rfl, List.length_set⟩
      | io x => cases g'
theorem settles_kept : ∀ {rs : List Rv} {e e' : Env'} {ds : List D}, settles e rs = some (ds, e') → Kept e e' ∧ e'.length = e.length
  | [], e, e', ds, h => by cases h; exact ⟨Kept.refl e, rfl⟩
  | r :: rs, e, e', ds, h => by
    unfold settles at h
    cases q : r.settle e with
    | none => rw [q] at h; cases h
    | some x =>
      obtain ⟨d, e1⟩ := x
      rw [q] at h
      cases q2 : settles e1 rs with
      | none => simp only [q2] at h; cases h
      | some y =>
        obtain ⟨ds', e2⟩ := y
        simp only [q2] at h
        cases h
        obtain ⟨k1, l1⟩ := settle_kept q
        obtain ⟨k2, l2⟩ := settles_kept q2
        exact ⟨k1.trans k2, l2.trans l1⟩
mutual
theorem bind_kept : ∀ (t : Tg) (d : D) (e e' : Env'), t.bind d e = some e' → Kept e e' ∧ e'.length = e.length
  | .nm i, d, e, e', h => by
    unfold Tg.bind at h
    cases q : e[i]? with
    | none => rw [q] at h; cases h
    | some b =>
      rw [q] at h
      cases b with
      | io x => cases h
      | un => cases h; exact ⟨Kept.set rfl, List.length_set⟩
      | im x => cases h; exact ⟨Kept.set rfl, List.length_set⟩
      | ow x => cases h; exact ⟨Kept.set rfl, List.length_set⟩
  | .tp ts, .tup ds, e, e', h => binds_kept ts ds e e' (by unfold Tg.bind at h; exact h)
  | .tp ts, .non, e, e', h => by unfold Tg.bind at h; cases h
  | .tp ts, .bl _, e, e', h => by unfold Tg.bind at h; cases h
  | .tp ts, .int _, e, e', h => by unfold Tg.bind at h; cases h
  | .tp ts, .str _, e, e', h => by unfold Tg.bind at h; cases h
  | .tp ts, .lst ds, e, e', h => binds_kept ts ds e e' (by unfold Tg.bind at h; exact h)
  | .tp ts, .dic _ _, e, e', h => by unfold Tg.bind at h; cases h
  | .tp ts, .scr _, e, e', h => by unfold Tg.bind at h; cases h
theorem binds_kept : ∀ (ts : List Tg) (ds : List D) (e e' : Env'), Tg.binds ts ds e = some e' → Kept e e' ∧ e'.length = e.length
  | [], [], e, e', h => by unfold Tg.binds at h; cases h; exact ⟨Kept.refl e, rfl⟩
  | t :: ts, d :: ds, e, e', h => by
    unfold Tg.binds at h
    cases q : t.bind d e with
    | none => rw [q] at h; cases h
    | some e1 =>
      rw [q] at h
      obtain ⟨k1, l1⟩ := bind_kept t d e e1 q
      obtain ⟨k2, l2⟩ := binds_kept ts ds e1 e' h
      exact ⟨k1.trans k2, l2.trans l1⟩
  | [], _ :: _, e, e', h => by unfold Tg.binds at h; cases h
  | _ :: _, [], e, e', h => by unfold Tg.binds at h; cases h
end
theorem lcLoop_kept {vs : List Nat} {f : D → Env' → Option (List D × Env')} (hf : ∀ d e ys e', f d e = some (ys, e') → KeptOff vs e e' ∧ e'.length = e.length) :
    ∀ {ds : List D} {e e' : Env'} {ys : List D}, lcLoop f ds e = some (ys, e') → KeptOff vs e e' ∧ e'.length = e.length
  | [], e, e', ys, h => by cases h; exact ⟨fun i _ b d h q => ⟨b, d, h, q⟩, rfl⟩
  | d :: ds, e, e', ys, h => by
    unfold lcLoop at h
    cases q : f d e with
    | none => rw [q] at h; cases h
    | some x =>
      obtain ⟨a, e1⟩ := x
      rw [q] at h
      cases q2 : lcLoop f ds e1 with
      | none => simp only [q2] at h; cases h
      | some y =>
        obtain ⟨c, e2⟩ := y
        simp only [q2] at h
        cases h
        obtain ⟨k1, l1⟩ := hf d e a e1 q
        obtain ⟨k2, l2⟩ := lcLoop_kept hf q2
        exact ⟨k1.trans k2, l2.trans l1⟩
def KL (e e' : Env') : Prop := Kept e e' ∧ e'.length = e.length
theorem KL.refl (e : Env') : KL e e := ⟨Kept.refl e, rfl⟩
theorem KL.trans {a b c : Env'} (h : KL a b) (g : KL b c) : KL a c := ⟨h.1.trans g.1, g.2.trans h.2⟩
theorem lcTurn_kept {tg : Tg} {vs : List Nat} {t : Env' → Option (Bool × Env')} {f : Env' → Option (Rv × Env')} (ht : ∀ e b e', t e = some (b, e') → KL e e') (hf : ∀ e r e', f e = some (r, e') → KL e e') {d : D} {e e' : Env'} {ys : List D}
    (hq : lcTurn tg vs t f d e = some (ys, e')) : KeptOff vs e e' ∧ e'.length = e.length := by
  unfold lcTurn at hq
  split at hq
  · rename_i e3 h3
    have k3 := bind_kept tg d _ _ h3
    split at hq
    · rename_i e4 h4
      have k4 := ht _ _ _ h4
      split at hq
      · rename_i r5 e5 h5
        have k5 := hf _ _ _ h5
        split at hq
        · rename_i y e6 h6
          cases hq
          have k6 := settle_kept h6
          have kk := (((show KL _ _ from k3).trans k4).trans k5).trans k6
          exact ⟨(kk.1.off vs).trans (wipeE_kept vs), by rw [wipeE_len]; exact kk.2⟩
        · cases hq
      · cases hq
    · rename_i e4 h4
      cases hq
      have kk := (show KL _ _ from k3).trans (ht _ _ _ h4)
      exact ⟨(kk.1.off vs).trans (wipeE_kept vs), by rw [wipeE_len]; exact kk.2⟩
    · cases hq
  · cases hq
theorem KeptOff.mono {vs ws : List Nat} {e e' : Env'} (h : ∀ i ∈ vs, i ∈ ws) (k : KeptOff vs e e') : KeptOff ws e e' := fun i hi => k i fun z => hi (h i z)
theorem lc2Turn_kept {tg tg2 : Tg} {vs vs1 : List Nat} (hv : ∀ i ∈ vs1, i ∈ vs) {t1 t : Env' → Option (Bool × Env')} {it : Env' → Option (List D × Env')} {f : Env' → Option (Rv × Env')} (ht1 : ∀ e b e', t1 e = some (b, e') → KL e e') (hit : ∀ e l e', it e = some (l, e') → KL e e')
    (ht : ∀ e b e', t e = some (b, e') → KL e e') (hf : ∀ e r e', f e = some (r, e') → KL e e') {d : D} {e e' : Env'} {ys : List D} (hq : lc2Turn tg vs vs1 tg2 t1 it t f d e = some (ys, e')) : KeptOff vs e e' ∧ e'.length = e.length := by
  unfold lc2Turn at hq
  split at hq
  · rename_i e3 h3
    have k3 : KL e e3 := bind_kept tg d _ _ h3
    split at hq
    · rename_i e4 h4
      have k4 := ht1 _ _ _ h4
      split at hq
      · rename_i items e6 h6
        have k6 := hit _ _ _ h6
        split at hq
        · split at hq
          · rename_i ys' e7 h7
            cases hq
            have kl : KeptOff vs1 (wipeE e6 vs1) e7 ∧ e7.length = (wipeE e6 vs1).length := lcLoop_kept (vs := vs1) (fun d ea ya eb hq => lcTurn_kept ht hf hq) h7
            have kk := (k3.trans k4).trans k6
            refine ⟨((kk.1.off vs).trans (((wipeE_kept vs1).trans kl.1).mono hv)).trans (wipeE_kept vs), ?_⟩
            rw [wipeE_len, kl.2, wipeE_len]
            exact kk.2
          · cases hq
        · cases hq
      · cases hq
    · rename_i e4 h4
      cases hq
      have kk := k3.trans (ht1 _ _ _ h4)
      exact ⟨(kk.1.off vs).trans (wipeE_kept vs), by rw [wipeE_len]; exact kk.2⟩
    · cases hq
  · cases hq
mutual
theorem ev_kept : ∀ (x : Ex) (e e' : Env') (r : Rv), ev x e = some (r, e') → KL e e'
  | .cst d, e, e', r, h => by unfold ev at h; cases h; exact KL.refl e
  | .var i, e, e', r, h => by
    unfold ev at h
    split at h <;> cases h <;> exact KL.refl e
  | .op f as, e, e', r, h => by
    unfold ev at h
    split at h
    · rename_i rs e1 q
      split at h
      · split at h
        · cases h; exact evs_kept as _ _ _ q
        · cases h
      · cases h
    · cases h
  | .mk f as, e, e', r, h => by
    unfold ev at h
    split at h
    · rename_i rs e1 q
      split at h
      · rename_i ds e2 q2
        split at h
        · cases h; exact (evs_kept as _ _ _ q).trans (settles_kept q2)
        · cases h
      · cases h
    · cases h
  | .call f as, e, e', r, h => by
    unfold ev at h
    split at h
    · rename_i rs e1 q
      split at h
      · rename_i ds e2 q2
        split at h
        · cases h; exact (evs_kept as _ _ _ q).trans (settles_kept q2)
        · cases h
      · cases h
    · cases h
  | .callO f i as, e, e', r, h => by
    unfold ev at h
    split at h
    · split at h
      · rename_i rs e1 q
        split at h
        · rename_i ds e2 q2
          split at h
          · split at h
            · cases h; exact ((evs_kept as _ _ _ q).trans (settles_kept q2)).trans ⟨Kept.set rfl, List.length_set⟩
            · cases h
          · split at h
            · cases h; exact ((evs_kept as _ _ _ q).trans (settles_kept q2)).trans ⟨Kept.set rfl, List.length_set⟩
            · cases h
          · cases h
        · cases h
      · cases h
    · cases h
  | .callB f as, e, e', r, h => by
    unfold ev at h
    split at h
    · rename_i rs e1 q
      split at h
      · split at h
        · split at h
          · cases h; exact evs_kept as _ _ _ q
          · cases h
        · cases h
      · cases h
    · cases h
  | .and_ a b, e, e', r, h => by
    unfold ev at h
    split at h
    · rename_i ra e1 q
      split at h
      · split at h
        · exact (ev_kept a _ _ _ q).trans (ev_kept b e1 e' r h)
        · cases h; exact ev_kept a _ _ _ q
        · cases h
      · cases h
    · cases h
  | .or_ a b, e, e', r, h => by
    unfold ev at h
    split at h
    · rename_i ra e1 q
      split at h
      · split at h
        · exact (ev_kept a _ _ _ q).trans (ev_kept b e1 e' r h)
        · cases h; exact ev_kept a _ _ _ q
        · cases h
      · cases h
    · cases h
  | .ite c a b, e, e', r, h => by
    unfold ev at h
    split at h
    · rename_i ra e1 q
      split at h
      · split at h
        · exact (ev_kept c _ _ _ q).trans (ev_kept a e1 e' r h)
        · exact (ev_kept c _ _ _ q).trans (ev_kept b e1 e' r h)
        · cases h
      · cases h
    · cases h
  | .chain f g a b c, e, e', r, h => by
    unfold ev at h
    split at h
    · rename_i ra e1 q
      split at h
      · rename_i rb e2 q2
        have k := (ev_kept a _ _ _ q).trans (ev_kept b _ _ _ q2)
        split at h
        · split at h
          · split at h
            · rename_i rc e3 q3
              split at h
              · split at h
                · cases h; exact k.trans (ev_kept c _ _ _ q3)
                · cases h
              · cases h
            · cases h
          · cases h; exact k
          · cases h
        · cases h
      · cases h
    · cases h
  | .chain3 f g h3 a b c d, e, e', r, h => by
    unfold ev at h
    split at h
    · rename_i ra e1 q
      split at h
      · rename_i rb e2 q2
        have k := (ev_kept a _ _ _ q).trans (ev_kept b _ _ _ q2)
        split at h
        · split at h
          · split at h
            · rename_i rc e3 q3
              have k3 := k.trans (ev_kept c _ _ _ q3)
              split at h
              · split at h
                · split at h
                  · rename_i rd e4 q4
                    split at h
                    · split at h
                      · cases h; exact k3.trans (ev_kept d _ _ _ q4)
                      · cases h
                    · cases h
                  · cases h
                · cases h; exact k3
                · cases h
              · cases h
            · cases h
          · cases h; exact k
          · cases h
        · cases h
      · cases h
    · cases h
  | .lc g as vs tg cs elt, e, e', r, h => by
    unfold ev at h
    split at h
    · rename_i rs e1 q
      split at h
      · rename_i ds e2 q2
        have k := (evs_kept as _ _ _ q).trans (settles_kept q2)
        split at h
        · split at h
          · rename_i hs
            split at h
            · rename_i ys e7 q3
              split at h
              · cases h
                have kl : KeptOff vs (wipeE e2 vs) e7 ∧ e7.length = (wipeE e2 vs).length := lcLoop_kept (vs := vs) (fun d ea ya eb hq => lcTurn_kept (fun e1 b e2 h => evt_kept cs _ _ _ h) (fun e1 r e2 h => ev_kept elt _ _ _ h) hq) q3
                have ll : e2.length = e7.length := by rw [kl.2, wipeE_len]
                refine k.trans ⟨fun i b d hb hd => ?_, by rw [backE_len]; exact ll.symm⟩
                by_cases hi : i ∈ vs
                · exact ⟨b, d, backE_in ll hi hb, hd⟩
                · obtain ⟨b', d', h1, h2⟩ := ((wipeE_kept vs).trans kl.1) i hi b d hb hd
                  exact ⟨b', d', by rw [backE_off hi]; exact h1, h2⟩
              · cases h
            · cases h
          · cases h
        · cases h
      · cases h
    · cases h
  | .lc2 g as vs tg cs1 g2 as2 vs1 tg2 cs elt, e, e', r, h => by
    unfold ev at h
    split at h
    · rename_i rs e1 q
      split at h
      · rename_i ds e2 q2
        have k := (evs_kept as _ _ _ q).trans (settles_kept q2)
        split at h
        · split at h
          · rename_i hs
            have hv : ∀ i ∈ vs1, i ∈ vs := fun i hi => List.contains_iff_mem.mp (List.all_eq_true.mp (Bool.and_eq_true_iff.mp hs).2 i hi)
            split at h
            · rename_i ys e7 q3
              split at h
              · cases h
                have kl : KeptOff vs (wipeE e2 vs) e7 ∧ e7.length = (wipeE e2 vs).length := lcLoop_kept (vs := vs) (fun d ea ya eb hq => lc2Turn_kept hv (fun e1 b e2 h => evt_kept cs1 _ _ _ h) (fun ea l eb h => by
                  split at h
                  · rename_i rs5 e5 q5
                    split at h
                    · rename_i ds6 e6 q6
                      split at h
                      · cases h
                        exact (evs_kept as2 _ _ _ q5).trans (settles_kept q6)
                      · cases h
                    · cases h
                  · cases h) (fun e1 b e2 h => evt_kept cs _ _ _ h) (fun e1 r e2 h => ev_kept elt _ _ _ h) hq) q3
                have ll : e2.length = e7.length := by rw [kl.2, wipeE_len]
                refine k.trans ⟨fun i b d hb hd => ?_, by rw [backE_len]; exact ll.symm⟩
                by_cases hi : i ∈ vs
                · exact ⟨b, d, backE_in ll hi hb, hd⟩
                · obtain ⟨b', d', h1, h2⟩ := ((wipeE_kept vs).trans kl.1) i hi b d hb hd
                  exact ⟨b', d', by rw [backE_off hi]; exact h1, h2⟩
              · cases h
            · cases h
          · cases h
        · cases h
      · cases h
    · cases h
  | .dsp f fl as, e, e', r, h => by
    unfold ev at h
    split at h
    · rename_i ds e1 q
      split at h
      · cases h
        exact evd_kept fl as _ _ _ q
      · cases h
    · cases h
theorem evd_kept : ∀ (fl : List Bool) (xs : List Ex) (e e' : Env') (ds : List D), evd fl xs e = some (ds, e') → KL e e'
  | _, [], e, e', ds, h => by unfold evd at h; cases h; exact KL.refl e
  | fl, a :: as, e, e', ds, h => by
    unfold evd at h
    split at h
    · rename_i r e1 q
      have k := ev_kept a _ _ _ q
      split at h
      · rename_i fl
        split at h
        · split at h
          · split at h
            · rename_i ds2 e2 q2
              cases h
              exact k.trans (evd_kept fl as _ _ _ q2)
            · cases h
          · cases h
        · cases h
      · rename_i fl
        split at h
        · rename_i d e2 q2
          have k2 := settle_kept q2
          split at h
          · rename_i ds3 e3 q3
            cases h
            exact (k.trans k2).trans (evd_kept fl as _ _ _ q3)
          · cases h
        · cases h
      · cases h
    · cases h
theorem evs_kept : ∀ (xs : List Ex) (e e' : Env') (rs : List Rv), evs xs e = some (rs, e') → KL e e'
  | [], e, e', rs, h => by unfold evs at h; cases h; exact KL.refl e
  | a :: as, e, e', rs, h => by
    unfold evs at h
    split at h
    · rename_i r e1 q
      split at h
      · rename_i rs2 e2 q2
        cases h
        exact (ev_kept a _ _ _ q).trans (evs_kept as _ _ _ q2)
      · cases h
    · cases h
theorem evt_kept : ∀ (xs : List Ex) (e e' : Env') (b : Bool), evt xs e = some (b, e') → KL e e'
  | [], e, e', b, h => by unfold evt at h; cases h; exact KL.refl e
  | c :: _, e, e', b, h => by
    unfold evt at h
    split at h
    · rename_i r e1 q
      split at h
      · split at h
        · cases h; exact ev_kept c _ _ _ q
        · cases h
      · cases h
    · cases h
end
/-! ### what an expression's run wants -/
def tE (C : Cfg) (x : Ex) : TE := fun σ H Q => ∃ (F G0 G : Hp) (pn : Option (Nat × Addr)) (e : Env') (r : Rv) (e' : Env'), Rel C F G0 G H pn σ e ∧ ev x e = some (r, e') ∧
  ∀ v G' H', Rel C F G0 G' H' pn σ e' → Same G G' → RepR C.K G' σ e' r v → Q v H'
def tA (C : Cfg) (xs : List Ex) : TA := fun σ H Q => ∃ (F G0 G : Hp) (pn : Option (Nat × Addr)) (e : Env') (rs : List Rv) (e' : Env'), Rel C F G0 G H pn σ e ∧ evs xs e = some (rs, e') ∧
  ∀ vs G' H', Rel C F G0 G' H' pn σ e' → Same G G' → RepRs C.K G' σ e' rs vs → Q vs H'
def tT (C : Cfg) (x : Ex) : TT := fun σ H Q => ∃ (F G0 G : Hp) (pn : Option (Nat × Addr)) (e : Env') (r : Rv) (e' : Env') (d : D) (b : Bool), Rel C F G0 G H pn σ e ∧ ev x e = some (r, e') ∧ r.get e' = some d ∧ truth d = some b ∧
  ∀ G' H', Rel C F G0 G' H' pn σ e' → Same G G' → Q b H'
/-- .. of a thing that nobody else knows -/
def tF (C : Cfg) (x : Ex) : TE := fun σ H Q => ∃ (F G0 G : Hp) (pn : Option (Nat × Addr)) (e : Env') (d : D) (e' : Env'), Rel C F G0 G H pn σ e ∧ ev x e = some (.pers d, e') ∧
  ∀ p o G' H', Rel C F G0 G' H' pn σ e' → Same G G' → G' p = none → F p = none → p ∉ C.tt → (∀ i, ¬ Own σ e' i p) → H' p = some o → RepO C.K G' o d → Q (.ref p) H'
section
variable {X : Cx} {C : Cfg}
theorem _root_.L2.PE.imp {e : Expr} {t t' : TE} (h : PE X e t) (k : ∀ σ H Q, t' σ H Q → t σ H Q) : PE X e t' := ⟨fun pins s σ H Q I q => h.run pins s σ H Q I (k σ H Q q)⟩
theorem _root_.L2.PT.imp {e : Expr} {t t' : TT} (h : PT X e t) (k : ∀ σ H Q, t' σ H Q → t σ H Q) : PT X e t' := ⟨fun pins s σ H Q I q => h.run pins s σ H Q I (k σ H Q q)⟩
theorem _root_.L2.PW.imp {e : Expr} {t t' : TT} (h : PW X e t) (k : ∀ σ H Q, t' σ H Q → t σ H Q) : PW X e t' := ⟨fun w pins s σ H Q I q => h.run w pins s σ H Q I (k σ H Q q)⟩
theorem _root_.L2.PA.imp {e : List Expr} {t t' : TA} (h : PA X e t) (k : ∀ σ H Q, t' σ H Q → t σ H Q) : PA X e t' := ⟨fun pos pins s σ H Q I q => h.run pos pins s σ H Q I (k σ H Q q)⟩
theorem _root_.L2.PS.imp {e : Stmt} {t t' : TS} (h : PS X e t) (k : ∀ D σ H, t' D σ H → t D σ H) : PS X e t' := ⟨fun pins s σ H D I q => h.run pins s σ H D I (k D σ H q)⟩
theorem _root_.L2.PSs.imp {e : List Stmt} {t t' : TS} (h : PSs X e t) (k : ∀ D σ H, t' D σ H → t D σ H) : PSs X e t' := ⟨fun pins s σ H D I q => h.run pins s σ H D I (k D σ H q)⟩
/-- a thing that nobody else knows is, too, one that all know -/
theorem tF_tE {x : Ex} {σ : St} {H : Hp} {Q : VK} (h : tE C x σ H Q) (hx : ∀ e r e', ev x e = some (r, e') → ∃ d, r = .pers d) : tF C x σ H Q := by
  obtain ⟨F, G0, G, pn, e, r, e', R, he, k⟩ := h
  obtain ⟨d, rfl⟩ := hx e r e' he
  refine ⟨F, G0, G, pn, e, d, e', R, he, fun p o G' H' R' s g1 f1 t1 o1 h1 r1 => ?_⟩
  have s2 : Same G' (upd G' p o) := fun b u hb => by rw [upd_ne (ne_of_none hb g1)]; exact hb
  have gh2 : Same (upd G' p o) H' := fun b u hb => by
    by_cases z : b = p
    · rw [z, upd_same] at hb; rw [z, h1]; exact hb
    · rw [upd_ne z] at hb; exact R'.gh b u hb
  have R2 : Rel C F G0 (upd G' p o) H' pn σ e' := by
    refine ⟨R'.fh, gh2, fun b hb hn => ?_, fun P hP => ⟨(R'.tb P hP).1, ?_, (R'.tb P hP).2.2⟩, fun i b hb => ?_, R'.ap, R'.pi, R'.ln⟩
    · rw [upd_ne (fun z => hb (by rw [z]; exact f1))]; exact R'.gf b hb hn
    · rw [upd_ne (fun z => t1 (by rw [← z]; exact hP))]; exact (R'.tb P hP).2.1
    · have q := R'.sl i b hb
      cases b with
      | un => trivial
      | im d' =>
        obtain ⟨v, k1, k2⟩ := q
        exact ⟨v, k1, k2.mono s2⟩
      | ow d' =>
        obtain ⟨p', o', k0, k1, k2, k3, k4, k5⟩ := q
        exact ⟨p', o', k0, by rw [upd_ne (fun z => o1 i (by rw [← z]; exact ⟨k0, _, hb, rfl⟩))]; exact k1, k2, k3, k4, k5.mono s2⟩
      | io d' =>
        obtain ⟨p', o', k0, k1, k2, k3, k4, k5⟩ := q
        exact ⟨p', o', k0, by rw [upd_ne (fun z => o1 i (by rw [← z]; exact ⟨k0, _, hb, rfl⟩))]; exact k1, k2, k3, k4, k5.mono s2⟩
  refine k (.ref p) (upd G' p o) H' R2 (s.trans s2) ?_
  cases r1 with
  | lst r => exact .lst upd_same (r.mono s2)
  | dK e r => exact .dK (.inl upd_same) e (r.mono s2)
  | dT e r => exact .dT (.inl upd_same) e (r.mono s2)
/-! ### names, constants, argument lists -/
theorem ce_var {i : Nat} {x : Str} {pos : Pos} (h : PE X (.Name x pos) (tVar i)) : PE X (.Name x pos) (tE C (.var i)) := h.imp fun σ H Q q => by
  obtain ⟨F, G0, G, pn, e, r, e', R, he, k⟩ := q
  unfold ev at he
  cases q : e[i]? with
  | none => rw [q] at he; cases he
  | some b =>
    rw [q] at he
    have sl := R.sl i b q
    cases b with
    | un => cases he
    | im d =>
      cases he
      obtain ⟨v, h1, h2⟩ := sl
      exact ⟨v, h1, k v G H R (Same.refl G) h2⟩
    | ow d =>
      cases he
      obtain ⟨p, o, h1, _⟩ := sl
      exact ⟨.ref p, h1, k (.ref p) G H R (Same.refl G) ⟨h1, _, _, q, rfl⟩⟩
    | io d =>
      cases he
      obtain ⟨p, o, h1, _⟩ := sl
      exact ⟨.ref p, h1, k (.ref p) G H R (Same.refl G) ⟨h1, _, _, q, rfl⟩⟩
theorem tC_tE {v : V} {d : D} (h : ∀ G, Rep C.K G v d) (σ : St) (H : Hp) (Q : VK) (q : tE C (.cst d) σ H Q) : tC v σ H Q := by
  obtain ⟨F, G0, G, pn, e, r, e', R, he, k⟩ := q
  unfold ev at he
  cases he
  exact k v G H R (Same.refl G) (h G)
theorem ce_c {a : Expr} {v : V} {d : D} (h : PE X a (tC v)) (r : ∀ G, Rep C.K G v d) : PE X a (tE C (.cst d)) := h.imp (tC_tE r)
theorem ce_int {i : Int} {j : Nat} {pos : Pos} : PE X (.Constant (.int i) j pos) (tE C (.cst (.int i))) := ce_c pe_int fun _ => .int i
theorem ce_bl {b : Bool} {j : Nat} {pos : Pos} : PE X (.Constant (.bool b) j pos) (tE C (.cst (.bl b))) := ce_c pe_bl fun _ => .bl b
theorem ce_non {j : Nat} {pos : Pos} : PE X (.Constant .none j pos) (tE C (.cst .non)) := ce_c pe_non fun _ => .non
theorem ce_str {x : Str} {s : List Nat} {j : Nat} {pos : Pos} (hx : x = ⟨s.toArray⟩) : PE X (.Constant (.str x) j pos) (tE C (.cst (.str s))) := ce_c (v := .str x) pe_str fun _ => by rw [hx]; exact .str s
theorem ca_nil : PA X [] (tA C []) := pa_nil.imp fun σ H Q q => by
  obtain ⟨F, G0, G, pn, e, rs, e', R, he, k⟩ := q
  unfold evs at he
  cases he
  exact k [] G H R (Same.refl G) .nil
theorem tA_cons {x : Ex} {xs : List Ex} {σ : St} {H : Hp} {Q : List V → Hp → Prop} (q : tA C (x :: xs) σ H Q) : tE C x σ H fun v H1 => tA C xs σ H1 fun vs H2 => Q (v :: vs) H2 := by
  obtain ⟨F, G0, G, pn, e, rs, e', R, he, k⟩ := q
  unfold evs at he
  split at he
  · rename_i r e1 q1
    split at he
    · rename_i rs2 e2 q2
      cases he
      refine ⟨F, G0, G, pn, e, r, e1, R, q1, fun v G1 H1 R1 s1 r1 => ⟨F, G0, G1, pn, e1, rs2, e', R1, q2, fun vs G2 H2 R2 s2 r2 => ?_⟩⟩
      exact k (v :: vs) G2 H2 R2 (s1.trans s2) (.cons ((r1.mono s2).env (evs_kept xs _ _ _ q2).1) r2)
    · cases he
  · cases he
theorem ca_cons {a : Expr} {as : List Expr} {x : Ex} {xs : List Ex} (ha : PE X a (tE C x)) (hr : PA X as (tA C xs)) (hs : starEach (a :: as) X.env = (false, eval a X.env) :: starEach as X.env := by rfl) : PA X (a :: as) (tA C (x :: xs)) :=
  (pa_cons ha hr hs).imp fun σ H Q q => tA_cons q
/-! ### operations -/
def OkN (C : Cfg) (r : List V → Hp → VK → Prop) (f : List D → Option D) : Prop := ∀ (vs : List V) (ds : List D) (d : D) (G H : Hp) (Q : VK), Same G H → (∀ P ∈ C.tt, TabG H P) → RepTs C.K G H vs ds → f ds = some d →
  (∀ v G' H', Grow C G H G' H' → Rep C.K G' v d → Q v H') → r vs H Q
def OkNF (C : Cfg) (r : List V → Hp → VK → Prop) (f : List D → Option D) : Prop := ∀ (vs : List V) (ds : List D) (d : D) (G H : Hp) (Q : VK), Same G H → (∀ P ∈ C.tt, TabG H P) → RepTs C.K G H vs ds → f ds = some d →
  (∀ p o, H p = none → RepO C.K G o d → Q (.ref p) (upd H p o)) → r vs H Q
def OkM (C : Cfg) (r : List V → Hp → VK → Prop) (f : List D → Option D) : Prop := ∀ (vs : List V) (ds : List D) (d : D) (G H : Hp) (Q : VK), Same G H → (∀ P ∈ C.tt, TabG H P) → RepL C.K G vs ds → f ds = some d →
  (∀ v G' H', Grow C G H G' H' → Rep C.K G' v d → Q v H') → r vs H Q
def OkMF (C : Cfg) (r : List V → Hp → VK → Prop) (f : List D → Option D) : Prop := ∀ (vs : List V) (ds : List D) (d : D) (G H : Hp) (Q : VK), Same G H → (∀ P ∈ C.tt, TabG H P) → RepL C.K G vs ds → f ds = some d →
  (∀ p o, H p = none → RepO C.K G o d → Q (.ref p) (upd H p o)) → r vs H Q
def Ok2 (C : Cfg) (r : R2) (f : List D → Option D) : Prop := ∀ (x y : V) (a b d : D) (G H : Hp) (Q : VK), Same G H → (∀ P ∈ C.tt, TabG H P) → RepT C.K G H x a → RepT C.K G H y b → f [a, b] = some d →
  (∀ v G' H', Grow C G H G' H' → Rep C.K G' v d → Q v H') → r x y H Q
def Ok2F (C : Cfg) (r : R2) (f : List D → Option D) : Prop := ∀ (x y : V) (a b d : D) (G H : Hp) (Q : VK), Same G H → (∀ P ∈ C.tt, TabG H P) → RepT C.K G H x a → RepT C.K G H y b → f [a, b] = some d →
  (∀ p o, H p = none → RepO C.K G o d → Q (.ref p) (upd H p o)) → r x y H Q
theorem known_of_new {G H : Hp} {Q : VK} {d : D} (s : Same G H) (t : ∀ P ∈ C.tt, TabG H P) (k : ∀ v G' H', Grow C G H G' H' → Rep C.K G' v d → Q v H') : ∀ p o, H p = none → RepO C.K G o d → Q (.ref p) (upd H p o) := fun p o hp r => by
  have gp := s.free hp
  have s2 : Same G (upd G p o) := fun b u hb => by rw [upd_ne (ne_of_none hb gp)]; exact hb
  refine k (.ref p) (upd G p o) (upd H p o) (grow_new s t hp) ?_
  cases r with
  | lst r => exact .lst upd_same (r.mono s2)
  | dK e r => exact .dK (.inl upd_same) e (r.mono s2)
  | dT e r => exact .dT (.inl upd_same) e (r.mono s2)
theorem OkNF.ok {r : List V → Hp → VK → Prop} {f : List D → Option D} (h : OkNF C r f) : OkN C r f := fun vs ds d G H Q s t rr e k => h vs ds d G H Q s t rr e (known_of_new s t k)
theorem OkMF.ok {r : List V → Hp → VK → Prop} {f : List D → Option D} (h : OkMF C r f) : OkM C r f := fun vs ds d G H Q s t rr e k => h vs ds d G H Q s t rr e (known_of_new s t k)
theorem Ok2F.ok {r : R2} {f : List D → Option D} (h : Ok2F C r f) : Ok2 C r f := fun x y a b d G H Q s t r1 r2 e k => h x y a b d G H Q s t r1 r2 e (known_of_new s t k)
theorem own_of_new {F G0 G H : Hp} {pn : Option (Nat × Addr)} {σ : St} {e' : Env'} {Q : VK} {d : D} {G1 : Hp} (R1 : Rel C F G0 G1 H pn σ e') (s1 : Same G G1)
    (k : ∀ p o G' H', Rel C F G0 G' H' pn σ e' → Same G G' → G' p = none → F p = none → p ∉ C.tt → (∀ i, ¬ Own σ e' i p) → H' p = some o → RepO C.K G' o d → Q (.ref p) H') :
    ∀ p o, H p = none → RepO C.K G1 o d → Q (.ref p) (upd H p o) := fun p o hp r => by
  refine k p o G1 (upd H p o) (R1.grow (grow_own R1.gh R1.tabs hp)) s1 (R1.gh.free hp) (R1.fh.free hp) (fun z => tabG_some (R1.tb p z).1 hp) (fun i ⟨h1, b, h2, h3⟩ => ?_) upd_same r
  have q := R1.sl i b h2
  cases b with
  | un => cases h3
  | im d => cases h3
  | ow d =>
    obtain ⟨p', o', k0, _, _, _, k4, _⟩ := q
    rw [h1] at k0
    cases k0
    rw [hp] at k4
    cases k4
  | io d =>
    obtain ⟨p', o', k0, _, _, _, k4, _⟩ := q
    rw [h1] at k0
    cases k0
    rw [hp] at k4
    cases k4
theorem ev_op {f : List D → Option D} {xs : List Ex} {e e' : Env'} {r : Rv} (h : ev (.op f xs) e = some (r, e')) : ∃ rs ds d, evs xs e = some (rs, e') ∧ gets e' rs = some ds ∧ f ds = some d ∧ r = .pers d := by
  unfold ev at h
  split at h
  · rename_i rs e1 q
    split at h
    · rename_i ds q2
      split at h
      · rename_i d q3
        cases h
        exact ⟨rs, ds, d, q, q2, q3, rfl⟩
      · cases h
    · cases h
  · cases h
theorem ev_mk {f : List D → Option D} {xs : List Ex} {e e' : Env'} {r : Rv} (h : ev (.mk f xs) e = some (r, e')) : ∃ rs e1 ds d, evs xs e = some (rs, e1) ∧ settles e1 rs = some (ds, e') ∧ f ds = some d ∧ r = .pers d := by
  unfold ev at h
  split at h
  · rename_i rs e1 q
    split at h
    · rename_i ds e2 q2
      split at h
      · rename_i d q3
        cases h
        exact ⟨rs, e1, ds, d, q, q2, q3, rfl⟩
      · cases h
    · cases h
  · cases h
theorem tE_op {r : List V → Hp → VK → Prop} {f : List D → Option D} (ok : OkN C r f) {xs : List Ex} {σ : St} {H : Hp} {Q : VK} (q : tE C (.op f xs) σ H Q) : tA C xs σ H fun vs H1 => r vs H1 Q := by
  obtain ⟨F, G0, G, pn, e, rr, e', R, he, k⟩ := q
  obtain ⟨rs, ds, d, q1, q2, q3, rfl⟩ := ev_op he
  exact ⟨F, G0, G, pn, e, rs, e', R, q1, fun vs G1 H1 R1 s1 r1 => ok vs ds d G1 H1 Q R1.gh R1.tabs (R1.gets r1 q2) q3 fun v G2 H2 g rv => k v G2 H2 (R1.grow g) (s1.trans g.gg) rv⟩
theorem tF_op {r : List V → Hp → VK → Prop} {f : List D → Option D} (ok : OkNF C r f) {xs : List Ex} {σ : St} {H : Hp} {Q : VK} (q : tF C (.op f xs) σ H Q) : tA C xs σ H fun vs H1 => r vs H1 Q := by
  obtain ⟨F, G0, G, pn, e, d0, e', R, he, k⟩ := q
  obtain ⟨rs, ds, d, q1, q2, q3, q4⟩ := ev_op he
  cases q4
  exact ⟨F, G0, G, pn, e, rs, e', R, q1, fun vs G1 H1 R1 s1 r1 => ok vs ds _ G1 H1 Q R1.gh R1.tabs (R1.gets r1 q2) q3 (own_of_new R1 s1 k)⟩
theorem tE_mk {r : List V → Hp → VK → Prop} {f : List D → Option D} (ok : OkM C r f) {xs : List Ex} {σ : St} {H : Hp} {Q : VK} (q : tE C (.mk f xs) σ H Q) : tA C xs σ H fun vs H1 => r vs H1 Q := by
  obtain ⟨F, G0, G, pn, e, rr, e', R, he, k⟩ := q
  obtain ⟨rs, e1, ds, d, q1, q2, q3, rfl⟩ := ev_mk he
  refine ⟨F, G0, G, pn, e, rs, e1, R, q1, fun vs G1 H1 R1 s1 r1 => ?_⟩
  obtain ⟨G2, s2, R2, r2, _⟩ := Rel.settles R1 r1 q2
  exact ok vs ds d G2 H1 Q R2.gh R2.tabs r2 q3 fun v G3 H3 g rv => k v G3 H3 (R2.grow g) ((s1.trans s2).trans g.gg) rv
theorem tF_mk {r : List V → Hp → VK → Prop} {f : List D → Option D} (ok : OkMF C r f) {xs : List Ex} {σ : St} {H : Hp} {Q : VK} (q : tF C (.mk f xs) σ H Q) : tA C xs σ H fun vs H1 => r vs H1 Q := by
  obtain ⟨F, G0, G, pn, e, d0, e', R, he, k⟩ := q
  obtain ⟨rs, e1, ds, d, q1, q2, q3, q4⟩ := ev_mk he
  cases q4
  refine ⟨F, G0, G, pn, e, rs, e1, R, q1, fun vs G1 H1 R1 s1 r1 => ?_⟩
  obtain ⟨G2, s2, R2, r2, _⟩ := Rel.settles R1 r1 q2
  exact ok vs ds _ G2 H1 Q R2.gh R2.tabs r2 q3 (own_of_new R2 (s1.trans s2) k)
theorem tA_two {x y : Ex} {σ : St} {H : Hp} {P : V → V → Hp → Prop} (q : tA C [x, y] σ H fun vs H1 => ∃ a b, vs = [a, b] ∧ P a b H1) : tE C x σ H fun a H1 => tE C y σ H1 fun b H2 => P a b H2 := by
  obtain ⟨F, G0, G, pn, e, rs, e', R, he, k⟩ := q
  unfold evs at he
  split at he
  · rename_i r e1 q1
    split at he
    · rename_i rs2 e2 q2
      cases he
      unfold evs at q2
      split at q2
      · rename_i r2 e3 q3
        unfold evs at q2
        cases q2
        refine ⟨F, G0, G, pn, e, r, e1, R, q1, fun v G1 H1 R1 s1 r1 => ⟨F, G0, G1, pn, e1, r2, _, R1, q3, fun w G2 H2 R2 s2 r3 => ?_⟩⟩
        obtain ⟨a, b, e4, p⟩ := k [v, w] G2 H2 R2 (s1.trans s2) (.cons ((r1.mono s2).env (ev_kept y _ _ _ q3).1) (.cons r3 .nil))
        cases e4
        exact p
      · cases q2
    · cases he
  · cases he
theorem Ok2.n {r : R2} {f : List D → Option D} (h : Ok2 C r f) (hf : ∀ ds d, f ds = some d → ds.length = 2 := by intro ds d e; first | (match ds, e with | [_, _], _ => rfl)) : OkN C (fun vs H Q => ∃ a b, vs = [a, b] ∧ r a b H Q) f := fun vs ds d G H Q s t rr e k => by
  have hl := hf ds d e
  cases rr with
  | nil => cases hl
  | cons r1 rr =>
    cases rr with
    | nil => cases hl
    | cons r2 rr =>
      cases rr with
      | cons r3 rr => simp at hl
      | nil => exact ⟨_, _, rfl, h _ _ _ _ d G H Q s t r1 r2 e k⟩
theorem Ok2F.n {r : R2} {f : List D → Option D} (h : Ok2F C r f) (hf : ∀ ds d, f ds = some d → ds.length = 2) : OkNF C (fun vs H Q => ∃ a b, vs = [a, b] ∧ r a b H Q) f := fun vs ds d G H Q s t rr e k => by
  have hl := hf ds d e
  cases rr with
  | nil => cases hl
  | cons r1 rr =>
    cases rr with
    | nil => cases hl
    | cons r2 rr =>
      cases rr with
      | cons r3 rr => simp at hl
      | nil => exact ⟨_, _, rfl, h _ _ _ _ d G H Q s t r1 r2 e k⟩
/-- f wants two values -/
def Two (f : List D → Option D) : Prop := ∀ ds d, f ds = some d → ds.length = 2
theorem tOp_of {r : R2} {f : List D → Option D} (ok : Ok2 C r f) (hf : Two f) {x y : Ex} {σ : St} {H : Hp} {Q : VK} (q : tE C (.op f [x, y]) σ H Q) : tOp r (tE C x) (tE C y) σ H Q := tA_two (tE_op (ok.n hf) q)
theorem tOpF_of {r : R2} {f : List D → Option D} (ok : Ok2F C r f) (hf : Two f) {x y : Ex} {σ : St} {H : Hp} {Q : VK} (q : tF C (.op f [x, y]) σ H Q) : tOp r (tE C x) (tE C y) σ H Q := tA_two (tF_op (ok.n hf) q)
variable {a b c : Expr} {x y z : Ex} {pos : Pos}
theorem ce_bin {op : Operator} {r : R2} {f : List D → Option D} (ho : OpR X (binaryOp op) r) (ok : Ok2 C r f) (hf : Two f) (ha : PE X a (tE C x)) (hb : PE X b (tE C y)) : PE X (.BinOp a op b pos) (tE C (.op f [x, y])) :=
  (pe_op ho ha hb).imp fun σ H Q q => tOp_of ok hf q
theorem cf_bin {op : Operator} {r : R2} {f : List D → Option D} (ho : OpR X (binaryOp op) r) (ok : Ok2F C r f) (hf : Two f) (ha : PE X a (tE C x)) (hb : PE X b (tE C y)) : PE X (.BinOp a op b pos) (tF C (.op f [x, y])) :=
  (pe_op ho ha hb).imp fun σ H Q q => tOpF_of ok hf q
theorem ce_cmp {op : CmpOp} {r : R2} {f : List D → Option D} (ho : OpR X (compareOp op) r) (ok : Ok2 C r f) (hf : Two f) (ha : PE X a (tE C x)) (hb : PE X b (tE C y)) (hm : behindInMarks op b = false) : PE X (.Compare a [op] [b] pos) (tE C (.op f [x, y])) :=
  (pe_cmpR ho ha hb hm).imp fun σ H Q q => tOp_of ok hf q
/-- the test's answer is a bool -/
theorem tTest_of {t : TE} {x : Ex} {σ : St} {H : Hp} {Q : Bool → Hp → Prop} (himp : ∀ Q : VK, tE C x σ H Q → t σ H Q) (hx : ∀ e r e', ev x e = some (r, e') → ∃ k, r = .pers (.bl k)) (q : tT C x σ H Q) : tTest t σ H Q := by
  obtain ⟨F, G0, G, pn, e, r, e', d, bb, R, he, hg, ht, k⟩ := q
  obtain ⟨kk, rfl⟩ := hx e r e' he
  cases hg
  cases ht
  exact himp _ ⟨F, G0, G, pn, e, _, e', R, he, fun v G' H' R' s rv => ⟨_, by cases rv; rfl, k G' H' R' s⟩⟩
/-- f answers a bool -/
def Boo (f : List D → Option D) : Prop := ∀ ds d, f ds = some d → ∃ k, d = .bl k
theorem op_boo {f : List D → Option D} (hf : Boo f) {xs : List Ex} : ∀ e r e', ev (.op f xs) e = some (r, e') → ∃ k, r = .pers (.bl k) := fun e r e' h => by
  obtain ⟨rs, ds, d, q1, q2, q3, rfl⟩ := ev_op h
  obtain ⟨k, rfl⟩ := hf ds d q3
  exact ⟨k, rfl⟩
theorem ct_cmp {op : CmpOp} {r : R2} {f : List D → Option D} (ho : OpR X (compareOp op) r) (ok : Ok2 C r f) (hf : Two f) (hb2 : Boo f) (ha : PE X a (tE C x)) (hb : PE X b (tE C y)) (hm : behindInMarks op b = false) : PT X (.Compare a [op] [b] pos) (tT C (.op f [x, y])) :=
  (pt_cmpR ho ha hb hm).imp fun σ H Q q => tTest_of (fun Q q => tOp_of ok hf q) (op_boo hb2) q
theorem tUn_of {r : V → Hp → VK → Prop} {f : List D → Option D} (ok : OkN C (fun vs H Q => ∃ a, vs = [a] ∧ r a H Q) f) {x : Ex} {σ : St} {H : Hp} {Q : VK} (q : tE C (.op f [x]) σ H Q) : tUn r (tE C x) σ H Q := by
  obtain ⟨F, G0, G, pn, e, rs, e', R, he, k⟩ := tE_op ok q
  unfold evs at he
  split at he
  · rename_i r1 e1 q1
    unfold evs at he
    cases he
    refine ⟨F, G0, G, pn, e, r1, _, R, q1, fun v G1 H1 R1 s1 r2 => ?_⟩
    obtain ⟨a, e4, p⟩ := k [v] G1 H1 R1 s1 (.cons r2 .nil)
    cases e4
    exact p
  · cases he
theorem ce_un {op : UnaryOp} {r : V → Hp → VK → Prop} {f : List D → Option D} (ho : UnR X (unaryOp op) r) (ok : OkN C (fun vs H Q => ∃ a, vs = [a] ∧ r a H Q) f) (ha : PE X a (tE C x)) : PE X (.UnaryOp op a pos) (tE C (.op f [x])) :=
  (pe_un ho ha).imp fun σ H Q q => tUn_of ok q
theorem ce_ix {r : R2} {f : List D → Option D} (hr : IxR X r) (ok : Ok2 C r f) (hf : Two f) (ha : PE X a (tE C x)) (hb : PE X b (tE C y)) (hs : PlainIx b) : PE X (.Subscript a b pos) (tE C (.op f [x, y])) :=
  (pe_ix hr ha hb hs).imp fun σ H Q q => tOp_of ok hf q
/-- built-in functions and types -/
theorem ce_callB {id : String} {r : List V → Hp → VK → Prop} {f : List D → Option D} {nm : Str} {p : Pos} {es : List Expr} {xs : List Ex} (hc : CallR X (.builtin id) r) (ok : OkN C r f) (hg : Gl X nm) (hm : X.mg nm = none) (hv : bootBuiltins nm = some (.builtin id)) (ha : PA X (a :: es) (tA C xs))
    (hn : nm ≠ "__name__" := by decide) (hdb : (nm == ("__debug__" : Str)) = false := by decide)
    (he : starEach (a :: es) X.env = (false, eval a X.env) :: starEach es X.env := by rfl) (hpl : (backTo pos (starEach es X.env)).any (·.1) = false := by rfl) : PE X (.Call (.Name nm p) (a :: es) [] pos) (tE C (.op f xs)) :=
  (pe_callB hc hg hm hv ha hn hdb he hpl).imp fun σ H Q q => tE_op ok q
theorem ce_callTy {T : String} {r : List V → Hp → VK → Prop} {f : List D → Option D} {nm : Str} {p : Pos} {es : List Expr} {xs : List Ex} (hc : CallR X (.type T) r) (ok : OkN C r f) (hg : Gl X nm) (hm : X.mg nm = none) (hv : bootBuiltins nm = some (.type T)) (ha : PA X (a :: es) (tA C xs))
    (hn : nm ≠ "__name__" := by decide) (hdb : (nm == ("__debug__" : Str)) = false := by decide)
    (he : starEach (a :: es) X.env = (false, eval a X.env) :: starEach es X.env := by rfl) (hpl : (backTo pos (starEach es X.env)).any (·.1) = false := by rfl) : PE X (.Call (.Name nm p) (a :: es) [] pos) (tE C (.op f xs)) :=
  (pe_callTy hc hg hm hv ha hn hdb he hpl).imp fun σ H Q q => tE_op ok q
theorem cf_callB {id : String} {r : List V → Hp → VK → Prop} {f : List D → Option D} {nm : Str} {p : Pos} {es : List Expr} {xs : List Ex} (hc : CallR X (.builtin id) r) (ok : OkNF C r f) (hg : Gl X nm) (hm : X.mg nm = none) (hv : bootBuiltins nm = some (.builtin id)) (ha : PA X (a :: es) (tA C xs))
    (hn : nm ≠ "__name__" := by decide) (hdb : (nm == ("__debug__" : Str)) = false := by decide)
    (he : starEach (a :: es) X.env = (false, eval a X.env) :: starEach es X.env := by rfl) (hpl : (backTo pos (starEach es X.env)).any (·.1) = false := by rfl) : PE X (.Call (.Name nm p) (a :: es) [] pos) (tF C (.op f xs)) :=
  (pe_callB hc hg hm hv ha hn hdb he hpl).imp fun σ H Q q => tF_op ok q
theorem cf_callTy {T : String} {r : List V → Hp → VK → Prop} {f : List D → Option D} {nm : Str} {p : Pos} {es : List Expr} {xs : List Ex} (hc : CallR X (.type T) r) (ok : OkNF C r f) (hg : Gl X nm) (hm : X.mg nm = none) (hv : bootBuiltins nm = some (.type T)) (ha : PA X (a :: es) (tA C xs))
    (hn : nm ≠ "__name__" := by decide) (hdb : (nm == ("__debug__" : Str)) = false := by decide)
    (he : starEach (a :: es) X.env = (false, eval a X.env) :: starEach es X.env := by rfl) (hpl : (backTo pos (starEach es X.env)).any (·.1) = false := by rfl) : PE X (.Call (.Name nm p) (a :: es) [] pos) (tF C (.op f xs)) :=
  (pe_callTy hc hg hm hv ha hn hdb he hpl).imp fun σ H Q q => tF_op ok q
end
end Mi

/-! Tests, calls. -/
namespace Mi
open PySem PySem.Spec PyProof.Rows L2 GxR
theorem lim16 {n : Nat} (h : n ≤ 16000000) : n ≤ sizeLine := by rw [sizeLine_eq]; omega
section
variable {X : Cx} {C : Cfg} {a b c : Expr} {x y z : Ex} {pos : Pos}
/-! ### tests -/
theorem truth_V {K : Frag} {G H : Hp} {v : V} {d : D} {b : Bool} (r : RepT K G H v d) (h : truth d = some b) : TruV K v H b := by
  cases r with
  | non => cases h; rfl
  | bl k => cases h; rfl
  | int i => cases h; rfl
  | str s =>
    unfold truth at h
    dsimp only at h
    split at h
    · rename_i hl
      cases h
      refine ⟨by have := lim16 hl; simpa [Str.length] using this, ?_⟩
      cases s with
      | nil => rfl
      | cons c s =>
        have : ((((c :: s).toArray.size : Nat) : Int) != 0) = true := by
          have h2 : (c :: s).toArray.size = s.length + 1 := by simp
          rw [h2]
          simp only [bne_iff_ne, ne_eq]
          omega
        exact this.symm
    · cases h
  | tup g q rr =>
    cases h
    refine .inr (.inl ⟨_, SqT.of q, ?_⟩)
    cases rr <;> rfl
  | lst q rr =>
    cases h
    refine .inl ⟨_, SqL.of q, ?_⟩
    cases rr <;> rfl
  | scr q => cases h
  | dK q e rr => cases h
  | dT q e rr => cases h
theorem ct_truth (ha : PE X a (tE C x)) (hK : C.K = X.K) (he : ∀ whole, isTrue a X.env whole = (do let v ← whole; standAt a.pos; holding [v] (truthy v))) : PT X a (tT C x) :=
  (pt_truth ha he).imp fun σ H Q q => by
    obtain ⟨F, G0, G, pn, e, r, e', d, bb, R, he, hg, ht, k⟩ := q
    refine ⟨F, G0, G, pn, e, r, e', R, he, fun v G' H' R' s rv => ⟨bb, ?_, k G' H' R' s⟩⟩
    rw [← hK]
    exact truth_V (R'.get rv hg) ht
theorem ct_not (ha : PT X a (tT C x)) : PT X (.UnaryOp .Not a pos) (tT C (.op (fun ds => match ds with
    | [d] => (truth d).map fun b => .bl (!b)
    | _ => none) [x])) := (pt_not ha).imp fun σ H Q q => by
  obtain ⟨F, G0, G, pn, e, r, e', d, bb, R, he, hg, ht, k⟩ := q
  obtain ⟨rs, ds, d1, q1, q2, q3, rfl⟩ := ev_op he
  unfold evs at q1
  split at q1
  · rename_i r1 e1 q4
    unfold evs at q1
    cases q1
    unfold gets at q2
    split at q2
    · rename_i d2 q5
      unfold gets at q2
      cases q2
      dsimp only at q3
      cases q6 : truth d2 with
      | none => rw [q6] at q3; cases q3
      | some k2 =>
        rw [q6] at q3
        cases q3
        cases hg
        cases ht
        exact ⟨F, G0, G, pn, e, r1, e', d2, k2, R, q4, q5, q6, k⟩
    · cases q2
  · cases q1
def notF : List D → Option D := fun ds => match ds with
  | [d] => (truth d).map fun b => .bl (!b)
  | _ => none
theorem notF_boo : Boo notF := fun ds d h => by
  unfold notF at h
  split at h
  · rename_i d0
    cases q : truth d0 with
    | none => rw [q] at h; cases h
    | some b => rw [q] at h; cases h; exact ⟨_, rfl⟩
  · cases h
theorem ct_notF (ha : PT X a (tT C x)) : PT X (.UnaryOp .Not a pos) (tT C (.op notF [x])) := ct_not ha
theorem ce_notF (ha : PE X a (tE C x)) (hK : C.K = X.K) : PE X (.UnaryOp .Not a pos) (tE C (.op notF [x])) := (pe_notT ha).imp fun σ H Q q => by
  obtain ⟨F, G0, G, pn, e, r, e', R, he, k⟩ := q
  obtain ⟨rs, ds, d1, q1, q2, q3, rfl⟩ := ev_op he
  unfold evs at q1
  split at q1
  · rename_i r1 e1 q4
    unfold evs at q1
    cases q1
    unfold gets at q2
    split at q2
    · rename_i d2 q5
      unfold gets at q2
      cases q2
      unfold notF at q3
      dsimp only at q3
      cases q6 : truth d2 with
      | none => rw [q6] at q3; cases q3
      | some k2 =>
        rw [q6] at q3
        cases q3
        refine ⟨F, G0, G, pn, e, r1, e', R, q4, fun v G' H' R' s rv => ⟨k2, ?_, k (.bl (!k2)) G' H' R' s (.bl _)⟩⟩
        rw [← hK]
        exact truth_V (R'.get rv q5) q6
    · cases q2
  · cases q1
theorem tAnd_of {σ : St} {H : Hp} {Q : Bool → Hp → Prop} (q : tT C (.and_ x y) σ H Q) : tAnd (tT C x) (tT C y) σ H Q := by
  obtain ⟨F, G0, G, pn, e, r, e', d, bb, R, he, hg, ht, k⟩ := q
  unfold ev at he
  split at he
  · rename_i r1 e1 q1
    split at he
    · rename_i d1 q2
      split at he
      · rename_i q3
        exact ⟨F, G0, G, pn, e, r1, e1, d1, true, R, q1, q2, q3, fun G1 H1 R1 s1 => iteT ⟨F, G0, G1, pn, e1, r, e', d, bb, R1, he, hg, ht, fun G2 H2 R2 s2 => k G2 H2 R2 (s1.trans s2)⟩⟩
      · rename_i q3
        cases he
        rw [q2] at hg
        cases hg
        rw [q3] at ht
        cases ht
        exact ⟨F, G0, G, pn, e, r, e', d, false, R, q1, q2, q3, fun G1 H1 R1 s1 => iteF (k G1 H1 R1 s1)⟩
      · cases he
    · cases he
  · cases he
theorem tOr_of {σ : St} {H : Hp} {Q : Bool → Hp → Prop} (q : tT C (.or_ x y) σ H Q) : tOr (tT C x) (tT C y) σ H Q := by
  obtain ⟨F, G0, G, pn, e, r, e', d, bb, R, he, hg, ht, k⟩ := q
  unfold ev at he
  split at he
  · rename_i r1 e1 q1
    split at he
    · rename_i d1 q2
      split at he
      · rename_i q3
        exact ⟨F, G0, G, pn, e, r1, e1, d1, false, R, q1, q2, q3, fun G1 H1 R1 s1 => iteF ⟨F, G0, G1, pn, e1, r, e', d, bb, R1, he, hg, ht, fun G2 H2 R2 s2 => k G2 H2 R2 (s1.trans s2)⟩⟩
      · rename_i q3
        cases he
        rw [q2] at hg
        cases hg
        rw [q3] at ht
        cases ht
        exact ⟨F, G0, G, pn, e, r, e', d, true, R, q1, q2, q3, fun G1 H1 R1 s1 => iteT (k G1 H1 R1 s1)⟩
      · cases he
    · cases he
  · cases he
variable {rest : List Expr}
theorem cw_and1 (ha : PT X a (tT C x)) : PW X (.BoolOp .And [a] pos) (tT C x) := pw_and1 ha
theorem cw_or1 (ha : PT X a (tT C x)) : PW X (.BoolOp .Or [a] pos) (tT C x) := pw_or1 ha
theorem cw_and (ha : PT X a (tT C x)) (hb : PW X (.BoolOp .And (b :: rest) pos) (tT C y)) : PW X (.BoolOp .And (a :: b :: rest) pos) (tT C (.and_ x y)) := (pw_and ha hb).imp fun σ H Q q => tAnd_of q
theorem cw_or (ha : PT X a (tT C x)) (hb : PW X (.BoolOp .Or (b :: rest) pos) (tT C y)) : PW X (.BoolOp .Or (a :: b :: rest) pos) (tT C (.or_ x y)) := (pw_or ha hb).imp fun σ H Q q => tOr_of q
/-- .. as values -/
theorem ce_one {op : BoolOp} (ha : PE X a (tE C x)) (h : ∀ {t : TE}, PE X a t → PE X (.BoolOp op [a] pos) t) : PE X (.BoolOp op [a] pos) (tE C x) := h ha
theorem ce_and (ha : PE X a (tE C x)) (hb : PE X (.BoolOp .And (b :: rest) pos) (tE C y)) (hK : C.K = X.K) : PE X (.BoolOp .And (a :: b :: rest) pos) (tE C (.and_ x y)) := (pe_andT ha hb).imp fun σ H Q q => by
  obtain ⟨F, G0, G, pn, e, r, e', R, he, k⟩ := q
  unfold ev at he
  split at he
  · rename_i r1 e1 q1
    split at he
    · rename_i d1 q2
      split at he
      · rename_i q3
        refine ⟨F, G0, G, pn, e, r1, e1, R, q1, fun v G1 H1 R1 s1 rv => ⟨true, by rw [← hK]; exact truth_V (R1.get rv q2) q3, iteT ⟨F, G0, G1, pn, e1, r, e', R1, he, fun w G2 H2 R2 s2 => k w G2 H2 R2 (s1.trans s2)⟩⟩⟩
      · rename_i q3
        cases he
        exact ⟨F, G0, G, pn, e, r, e', R, q1, fun v G1 H1 R1 s1 rv => ⟨false, by rw [← hK]; exact truth_V (R1.get rv q2) q3, iteF (k v G1 H1 R1 s1 rv)⟩⟩
      · cases he
    · cases he
  · cases he
theorem ce_or (ha : PE X a (tE C x)) (hb : PE X (.BoolOp .Or (b :: rest) pos) (tE C y)) (hK : C.K = X.K) : PE X (.BoolOp .Or (a :: b :: rest) pos) (tE C (.or_ x y)) := (pe_orT ha hb).imp fun σ H Q q => by
  obtain ⟨F, G0, G, pn, e, r, e', R, he, k⟩ := q
  unfold ev at he
  split at he
  · rename_i r1 e1 q1
    split at he
    · rename_i d1 q2
      split at he
      · rename_i q3
        refine ⟨F, G0, G, pn, e, r1, e1, R, q1, fun v G1 H1 R1 s1 rv => ⟨false, by rw [← hK]; exact truth_V (R1.get rv q2) q3, iteF ⟨F, G0, G1, pn, e1, r, e', R1, he, fun w G2 H2 R2 s2 => k w G2 H2 R2 (s1.trans s2)⟩⟩⟩
      · rename_i q3
        cases he
        exact ⟨F, G0, G, pn, e, r, e', R, q1, fun v G1 H1 R1 s1 rv => ⟨true, by rw [← hK]; exact truth_V (R1.get rv q2) q3, iteT (k v G1 H1 R1 s1 rv)⟩⟩
      · cases he
    · cases he
  · cases he
theorem ev_ite {e e' : Env'} {r : Rv} (he : ev (.ite z x y) e = some (r, e')) : ∃ r1 e1 d1 b, ev z e = some (r1, e1) ∧ r1.get e1 = some d1 ∧ truth d1 = some b ∧ ev (if b = true then x else y) e1 = some (r, e') := by
  unfold ev at he
  split at he
  · rename_i r1 e1 q1
    split at he
    · rename_i d1 q2
      split at he
      · rename_i q3
        exact ⟨r1, e1, d1, true, q1, q2, q3, by rw [if_pos rfl]; exact he⟩
      · rename_i q3
        exact ⟨r1, e1, d1, false, q1, q2, q3, by rw [if_neg Bool.false_ne_true]; exact he⟩
      · cases he
    · cases he
  · cases he
theorem ce_ite (hc : PT X c (tT C z)) (ha : PE X a (tE C x)) (hb : PE X b (tE C y)) : PE X (.IfExp c a b pos) (tE C (.ite z x y)) := (pe_ifExp hc ha hb).imp fun σ H Q q => by
  obtain ⟨F, G0, G, pn, e, r, e', R, he, k⟩ := q
  obtain ⟨r1, e1, d1, bb, q1, q2, q3, q4⟩ := ev_ite he
  refine ⟨F, G0, G, pn, e, r1, e1, d1, bb, R, q1, q2, q3, fun G1 H1 R1 s1 => ?_⟩
  cases bb with
  | true => exact iteT ⟨F, G0, G1, pn, e1, r, e', R1, q4, fun w G2 H2 R2 s2 => k w G2 H2 R2 (s1.trans s2)⟩
  | false => exact iteF ⟨F, G0, G1, pn, e1, r, e', R1, q4, fun w G2 H2 R2 s2 => k w G2 H2 R2 (s1.trans s2)⟩
theorem cf_ite (hc : PT X c (tT C z)) (ha : PE X a (tF C x)) (hb : PE X b (tF C y)) : PE X (.IfExp c a b pos) (tF C (.ite z x y)) := (pe_ifExp hc ha hb).imp fun σ H Q q => by
  obtain ⟨F, G0, G, pn, e, d, e', R, he, k⟩ := q
  obtain ⟨r1, e1, d1, bb, q1, q2, q3, q4⟩ := ev_ite he
  refine ⟨F, G0, G, pn, e, r1, e1, d1, bb, R, q1, q2, q3, fun G1 H1 R1 s1 => ?_⟩
  cases bb with
  | true => exact iteT ⟨F, G0, G1, pn, e1, d, e', R1, q4, fun p o G2 H2 R2 s2 => k p o G2 H2 R2 (s1.trans s2)⟩
  | false => exact iteF ⟨F, G0, G1, pn, e1, d, e', R1, q4, fun p o G2 H2 R2 s2 => k p o G2 H2 R2 (s1.trans s2)⟩
theorem ev_chain {f g : List D → Option D} {e e' : Env'} {r : Rv} (he : ev (.chain f g x y z) e = some (r, e')) :
    ∃ ra e1 rb e2 ds, ev x e = some (ra, e1) ∧ ev y e1 = some (rb, e2) ∧ gets e2 [ra, rb] = some ds ∧
      ((f ds = some (.bl false) ∧ r = .pers (.bl false) ∧ e' = e2) ∨ (f ds = some (.bl true) ∧ ∃ rc ds2 d, ev z e2 = some (rc, e') ∧ gets e' [rb, rc] = some ds2 ∧ g ds2 = some d ∧ r = .pers d)) := by
  unfold ev at he
  split at he
  · rename_i ra e1 q1
    split at he
    · rename_i rb e2 q2
      split at he
      · rename_i ds q3
        split at he
        · rename_i q4
          split at he
          · rename_i rc e3 q5
            split at he
            · rename_i ds2 q6
              split at he
              · rename_i d q7
                cases he
                exact ⟨ra, e1, rb, e2, ds, q1, q2, q3, .inr ⟨q4, rc, ds2, d, q5, q6, q7, rfl⟩⟩
              · cases he
            · cases he
          · cases he
        · rename_i q4
          cases he
          exact ⟨ra, e1, rb, _, ds, q1, q2, q3, .inl ⟨q4, rfl, rfl⟩⟩
        · cases he
      · cases he
    · cases he
  · cases he
theorem gets2 {e : Env'} {ra rb : Rv} {ds : List D} (h : gets e [ra, rb] = some ds) : ∃ a b, ds = [a, b] ∧ ra.get e = some a ∧ rb.get e = some b := by
  unfold gets at h
  split at h
  · rename_i a qa
    split at h
    · rename_i ds2 q2
      unfold gets at q2
      split at q2
      · rename_i b qb
        unfold gets at q2
        cases q2
        cases h
        exact ⟨a, b, rfl, qa, qb⟩
      · cases q2
    · cases h
  · cases h
theorem tChain_of {r r' : R2} {f g : List D → Option D} (ok : Ok2 C r f) (ok' : Ok2 C r' g) {σ : St} {H : Hp} {Q : VK} (q : tE C (.chain f g x y z) σ H Q) : tChain r r' (tE C x) (tE C y) (tE C z) σ H Q := by
  obtain ⟨F, G0, G, pn, e, rr, e', R, he, k⟩ := q
  obtain ⟨ra, e1, rb, e2, ds, q1, q2, q3, q4⟩ := ev_chain he
  refine ⟨F, G0, G, pn, e, ra, e1, R, q1, fun v G1 H1 R1 s1 rv => ⟨F, G0, G1, pn, e1, rb, e2, R1, q2, fun w G2 H2 R2 s2 rw' => ?_⟩⟩
  obtain ⟨da, db, rfl, ga, gb⟩ := gets2 q3
  have rv2 := (rv.mono s2).env (ev_kept y _ _ _ q2).1
  rcases q4 with ⟨hf, rfl, rfl⟩ | ⟨hf, rc, ds2, d, q5, q6, q7, rfl⟩
  · refine ok v w da db _ G2 H2 _ R2.gh R2.tabs (R2.get rv2 ga) (R2.get rw' gb) hf fun u G3 H3 gr ru => ?_
    cases ru
    exact ⟨false, rfl, iteF (k (.bl false) G3 H3 (R2.grow gr) ((s1.trans s2).trans gr.gg) (.bl false))⟩
  · refine ok v w da db _ G2 H2 _ R2.gh R2.tabs (R2.get rv2 ga) (R2.get rw' gb) hf fun u G3 H3 gr ru => ?_
    cases ru
    refine ⟨true, rfl, iteT ⟨F, G0, G3, pn, e2, rc, e', R2.grow gr, q5, fun u2 G4 H4 R4 s4 ru2 => ?_⟩⟩
    obtain ⟨db2, dc, rfl, gb2, gc⟩ := gets2 q6
    have rw2 := (rw'.mono (gr.gg.trans s4)).env (ev_kept z _ _ _ q5).1
    exact ok' w u2 db2 dc d G4 H4 Q R4.gh R4.tabs (R4.get rw2 gb2) (R4.get ru2 gc) q7 fun u3 G5 H5 gr5 ru3 => k u3 G5 H5 (R4.grow gr5) ((((s1.trans s2).trans gr.gg).trans s4).trans gr5.gg) ru3
theorem ce_chain {op op' : CmpOp} {r r' : R2} {f g : List D → Option D} (ho : OpR X (compareOp op) r) (ho' : OpR X (compareOp op') r') (ok : Ok2 C r f) (ok' : Ok2 C r' g) (ha : PE X a (tE C x)) (hb : PE X b (tE C y)) (hc : PE X c (tE C z))
    (hm : lastMarks [op, op'] [b, c] = false := by with_unfolding_all rfl) : PE X (.Compare a [op, op'] [b, c] pos) (tE C (.chain f g x y z)) := (pe_chain ho ho' ha hb hc hm).imp fun σ H Q q => tChain_of ok ok' q
theorem ct_chain {op op' : CmpOp} {r r' : R2} {f g : List D → Option D} (ho : OpR X (compareOp op) r) (ho' : OpR X (compareOp op') r') (ok : Ok2 C r f) (ok' : Ok2 C r' g) (bg : Boo g) (ha : PE X a (tE C x)) (hb : PE X b (tE C y)) (hc : PE X c (tE C z))
    (hm : lastMarks [op, op'] [b, c] = false := by with_unfolding_all rfl) : PT X (.Compare a [op, op'] [b, c] pos) (tT C (.chain f g x y z)) := (pt_chain ho ho' ha hb hc hm).imp fun σ H Q q =>
  tTest_of (fun Q q => tChain_of ok ok' q) (fun e r e' he => by
    obtain ⟨ra, e1, rb, e2, ds, q1, q2, q3, q4⟩ := ev_chain he
    rcases q4 with ⟨_, rfl, _⟩ | ⟨_, rc, ds2, d, _, _, q7, rfl⟩
    · exact ⟨false, rfl⟩
    · obtain ⟨k, rfl⟩ := bg ds2 d q7
      exact ⟨k, rfl⟩) q
/-! ### calls of one's own functions -/
/-- a promise: f of known things, a known answer -/
def spI (C : Cfg) (n : Nat) (φ : List D → Option D) : Sp := fun vs H Q _ => ∃ (G : Hp) (ds : List D) (d : D), vs.length = n ∧ Same G H ∧ (∀ P ∈ C.tt, TabG H P ∧ G P = none) ∧ RepL C.K G vs ds ∧ φ ds = some d ∧
  ∀ v G' H', Grow C G H G' H' → Rep C.K G' v d → Q v H'
structure GrowO (C : Cfg) (p : Addr) (G H G' H' : Hp) : Prop where
  gg : Same G G'
  gh : Same G' H'
  hh : ∀ q, q ≠ p → H q ≠ none → q ∉ C.tt → H' q = H q
  go : ∀ q, H q ≠ none → NT (H q) → G' q = G q
  tb : ∀ P ∈ C.tt, TabG H' P
/-- the first argument is an own thing, changed on the way -/
def spO (C : Cfg) (n : Nat) (φ : List D → Option (D × D)) : Sp := fun vs H Q _ => ∃ (G : Hp) (p : Addr) (o : HO) (d0 : D) (ws : List V) (ds : List D) (d d1 : D), vs = .ref p :: ws ∧ vs.length = n ∧ Same G H ∧ (∀ P ∈ C.tt, TabG H P ∧ G P = none) ∧ G p = none ∧ p ∉ C.tt ∧ H p = some o ∧ RepO C.K G o d0 ∧
  RepL C.K G ws ds ∧ φ (d0 :: ds) = some (d, d1) ∧ ∀ v G' H' o', GrowO C p G H G' H' → Rep C.K G' v d → H' p = some o' → RepO C.K G' o' d1 → Q v H'
theorem evs_len : ∀ {xs : List Ex} {e e1 : Env'} {rs : List Rv}, evs xs e = some (rs, e1) → rs.length = xs.length
  | [], e, e1, rs, h => by unfold evs at h; cases h; rfl
  | x :: xs, e, e1, rs, h => by
    unfold evs at h
    split at h
    · split at h
      · rename_i q
        cases h
        exact congrArg Nat.succ (evs_len q)
      · cases h
    · cases h
theorem settles_len : ∀ {rs : List Rv} {e e1 : Env'} {ds : List D}, settles e rs = some (ds, e1) → ds.length = rs.length
  | [], e, e1, ds, h => by cases h; rfl
  | r :: rs, e, e1, ds, h => by
    unfold settles at h
    split at h
    · split at h
      · rename_i q
        cases h
        exact congrArg Nat.succ (settles_len q)
      · cases h
    · cases h
theorem ev_call {φ : List D → Option D} {xs : List Ex} {e e' : Env'} {r : Rv} (h : ev (.call φ xs) e = some (r, e')) : ∃ rs e1 ds d, evs xs e = some (rs, e1) ∧ settles e1 rs = some (ds, e') ∧ φ ds = some d ∧ r = .pers d := by
  unfold ev at h
  split at h
  · rename_i rs e1 q
    split at h
    · rename_i ds e2 q2
      split at h
      · rename_i d q3
        cases h
        exact ⟨rs, e1, ds, d, q, q2, q3, rfl⟩
      · cases h
    · cases h
  · cases h
theorem tCall_of {n : Nat} {φ : List D → Option D} {xs : List Ex} (hn : xs.length = n) {σ : St} {H : Hp} {Q : VK} (q : tE C (.call φ xs) σ H Q) : tCall (spI C n φ) [] E0 (tA C xs) σ H Q := by
  obtain ⟨F, G0, G, pn, e, rr, e', R, he, k⟩ := q
  obtain ⟨rs, e1, ds, d, q1, q2, q3, rfl⟩ := ev_call he
  refine ⟨F, G0, G, pn, e, rs, e1, R, q1, fun vs G1 H1 R1 s1 r1 => ?_⟩
  obtain ⟨G2, s2, R2, r2, _⟩ := Rel.settles R1 r1 q2
  refine ⟨G2, ds, d, ?_, R2.gh, fun P hP => ⟨(R2.tb P hP).1, (R2.tb P hP).2.1⟩, by rw [List.append_nil]; exact r2, q3, fun v G3 H3 g rv => k v G3 H3 (R2.grow g) ((s1.trans s2).trans g.gg) rv⟩
  rw [List.append_nil, ← hn, r2.length, settles_len q2, evs_len q1]
variable {k n : Nat} {f : Addr} {fd : FuncData} {ps : List Str} {nm : Str} {p : Pos} {es : List Expr} {xs : List Ex}
theorem ce_call {φ : List D → Option D} (F : FnOk X.prog X.w X.K X.mg X.base CX0 k f fd ps (spI C n φ)) (hr : Room k X.A) (hg : Gl X nm) (hm : X.mg nm = some (.ref f)) (hk : PySem.W.keepIn X.K (.ref f) = true) (hb : Binds X.K fd ps []) (ha : PA X (a :: es) (tA C xs)) (hn : xs.length = n)
    (hdb : (nm == ("__debug__" : Str)) = false := by decide) (he : starEach (a :: es) X.env = (false, eval a X.env) :: starEach es X.env := by rfl) (hpl : (backTo pos (starEach es X.env)).any (·.1) = false := by rfl) :
    PE X (.Call (.Name nm p) (a :: es) [] pos) (tE C (.call φ xs)) := (pe_call F hr hg hm hk hb .nil pass0 ha hdb he hpl).imp fun σ H Q q => tCall_of hn q
theorem ce_call0 {φ : List D → Option D} (F : FnOk X.prog X.w X.K X.mg X.base CX0 k f fd ps (spI C 0 φ)) (hr : Room k X.A) (hg : Gl X nm) (hm : X.mg nm = some (.ref f)) (hk : PySem.W.keepIn X.K (.ref f) = true) (hb : Binds X.K fd ps [])
    (hdb : (nm == ("__debug__" : Str)) = false := by decide) :
    PE X (.Call (.Name nm p) [] [] pos) (tE C (.call φ [])) := (pe_call0 F hr hg hm hk hb .nil pass0 hdb).imp fun σ H Q q => by
  obtain ⟨F, G0, G, pn, e, rs, e', R, q1, k⟩ := (tCall_of rfl q : tCall (spI C 0 φ) [] E0 (tA C []) σ H Q)
  unfold evs at q1
  cases q1
  exact k [] G H R (Same.refl G) .nil
theorem ev_callO {φ : List D → Option (D × D)} {i : Nat} {e e' : Env'} {r : Rv} (h : ev (.callO φ i xs) e = some (r, e')) : ownAt e i = true ∧ ∃ rs e1 ds e2 d0 d d1, evs xs e = some (rs, e1) ∧ settles e1 rs = some (ds, e2) ∧ φ (d0 :: ds) = some (d, d1) ∧ r = .pers d ∧
    ((e2[i]? = some (.ow d0) ∧ e' = e2.set i (.ow d1)) ∨ (e2[i]? = some (.io d0) ∧ e' = e2.set i (.io d1))) := by
  unfold ev at h
  split at h
  · rename_i h0
    refine ⟨h0, ?_⟩
    split at h
    · rename_i rs e1 q
      split at h
      · rename_i ds e2 q2
        split at h
        · rename_i d0 q3
          split at h
          · rename_i d d1 q4
            cases h
            exact ⟨rs, e1, ds, e2, d0, d, d1, q, q2, q4, rfl, .inl ⟨q3, rfl⟩⟩
          · cases h
        · rename_i d0 q3
          split at h
          · rename_i d d1 q4
            cases h
            exact ⟨rs, e1, ds, e2, d0, d, d1, q, q2, q4, rfl, .inr ⟨q3, rfl⟩⟩
          · cases h
        · cases h
      · cases h
    · cases h
  · cases h
/-- an own thing at place i has changed -/
theorem Rel.own {F G0 G H G' H' : Hp} {pn : Option (Nat × Addr)} {σ : St} {e : Env'} {i : Nat} {p : Addr} {b b' : B} {o' : HO} (R : Rel C F G0 G H pn σ e) (hs : σ[i]? = some (some (.ref p))) (hb : e[i]? = some b) (hc : ∃ d d', (b = .ow d ∧ b' = .ow d') ∨ (b = .io d ∧ b' = .io d'))
    (g : GrowO C p G H G' H') (ho : H' p = some o') (hr : ∀ d', b'.data = some d' → RepO C.K G' o' d') : Rel C F G0 G' H' pn σ (e.set i b') := by
  obtain ⟨d, d', hc⟩ := hc
  have hbo : b.isOw = true := by rcases hc with ⟨rfl, _⟩ | ⟨rfl, _⟩ <;> rfl
  have hbo' : b'.isOw = true := by rcases hc with ⟨_, rfl⟩ | ⟨_, rfl⟩ <;> rfl
  have hd' : b'.data = some d' := by rcases hc with ⟨_, rfl⟩ | ⟨_, rfl⟩ <;> rfl
  have hi : i < e.length := (List.getElem?_eq_some_iff.mp hb).1
  have base : G p = none ∧ F p = none ∧ p ∉ C.tt ∧ H p ≠ none ∧ NT (H p) := by
    have q := R.sl i b hb
    rw [hs] at q
    rcases hc with ⟨rfl, _⟩ | ⟨rfl, _⟩
    · obtain ⟨p', o, e2, h1, h2, h3, h4, h5⟩ := q
      cases e2
      exact ⟨h1, h2, h3, (by rw [h4]; exact fun z => nomatch z), repO_nt h4 h5⟩
    · obtain ⟨p', o, e2, h1, h2, h3, h4, h5⟩ := q
      cases e2
      exact ⟨h1, h2, h3, (by rw [h4]; exact fun z => nomatch z), repO_nt h4 h5⟩
  obtain ⟨g1, f1, t1, n1, n2⟩ := base
  have fs : ∀ q, F q ≠ none → H q ≠ none := fun q h => by
    cases z : F q with
    | none => exact absurd z h
    | some o => rw [R.fh q o z]; exact fun z => nomatch z
  have ow0 : Own σ e i p := ⟨hs, b, hb, hbo⟩
  have get' : ∀ {j : Nat} {x : B}, (e.set i b')[j]? = some x → x.isOw = true → ∃ y, e[j]? = some y ∧ y.isOw = true := fun {j x} h ho => by
    by_cases hj : i = j
    · subst hj
      exact ⟨b, hb, hbo⟩
    · rw [List.getElem?_set_ne hj] at h
      exact ⟨x, h, ho⟩
  have fe : ∀ q, F q ≠ none → H q = F q := fun q h => by
    cases z : F q with
    | none => exact absurd z h
    | some o => exact R.fh q o z
  refine ⟨fun q o h => ?_, g.gh, fun q h hn => by rw [g.go q (fs q h) (by rw [fe q h]; exact hn)]; exact R.gf q h hn, fun P hP => ⟨g.tb P hP, ?_, (R.tb P hP).2.2⟩, fun j x hx => ?_, fun j m a ⟨a1, x, a2, a3⟩ ⟨b1, y, b2, b3⟩ => ?_, fun j a ha => ?_, by rw [List.length_set]; exact R.ln⟩
  · have hne : q ∉ C.tt := fun z => by rw [(R.tb q z).2.2] at h; cases h
    have hqp : q ≠ p := fun z => by rw [z, f1] at h; cases h
    rw [g.hh q hqp (by rw [R.fh q o h]; exact fun z => nomatch z) hne]
    exact R.fh q o h
  · rw [g.go P (tabG_some (R.tb P hP).1) (tabG_nt (R.tb P hP).1)]; exact (R.tb P hP).2.1
  · by_cases hj : i = j
    · subst hj
      rw [List.getElem?_set_self hi] at hx
      cases hx
      have fin : ∃ p o, σ[i]? = some (some (.ref p)) ∧ G' p = none ∧ F p = none ∧ p ∉ C.tt ∧ H' p = some o ∧ RepO C.K G' o d' := ⟨p, o', hs, by rw [g.go p n1 n2]; exact g1, f1, t1, ho, hr d' hd'⟩
      rcases hc with ⟨_, rfl⟩ | ⟨_, rfl⟩
      · exact fin
      · exact fin
    · rw [List.getElem?_set_ne hj] at hx
      have q := R.sl j x hx
      have ow : ∀ {p' : Addr} {o : HO} {d : D}, σ[j]? = some (some (.ref p')) → x.isOw = true → G p' = none → F p' = none → p' ∉ C.tt → H p' = some o → RepO C.K G o d → G' p' = none ∧ H' p' = some o ∧ RepO C.K G' o d := fun {p' o d} k0 kx h1 h2 h3 h4 h5 => by
        have hs2 : H p' ≠ none := by rw [h4]; exact fun z => nomatch z
        have hpp : p' ≠ p := fun z => by
          subst z
          exact hj (R.ap i j p' ow0 ⟨k0, x, hx, kx⟩)
        exact ⟨by rw [g.go p' hs2 (repO_nt h4 h5)]; exact h1, by rw [g.hh p' hpp hs2 h3]; exact h4, h5.mono g.gg⟩
      cases x with
      | un => trivial
      | im d2 =>
        obtain ⟨v, h1, h2⟩ := q
        exact ⟨v, h1, h2.mono g.gg⟩
      | ow d2 =>
        obtain ⟨p', o, h0, h1, h2, h3, h4, h5⟩ := q
        obtain ⟨k1, k2, k3⟩ := ow h0 rfl h1 h2 h3 h4 h5
        exact ⟨p', o, h0, k1, h2, h3, k2, k3⟩
      | io d2 =>
        obtain ⟨p', o, h0, h1, h2, h3, h4, h5⟩ := q
        obtain ⟨k1, k2, k3⟩ := ow h0 rfl h1 h2 h3 h4 h5
        exact ⟨p', o, h0, k1, h2, h3, k2, k3⟩
  · obtain ⟨x', hx', ox'⟩ := get' a2 a3
    obtain ⟨y', hy', oy'⟩ := get' b2 b3
    exact R.ap j m a ⟨a1, x', hx', ox'⟩ ⟨b1, y', hy', oy'⟩
  · obtain ⟨k1, d2, k2⟩ := R.pi j a ha
    refine ⟨k1, ?_⟩
    by_cases hj : i = j
    · subst hj
      rw [hb] at k2
      rcases hc with ⟨rfl, rfl⟩ | ⟨rfl, rfl⟩
      · cases k2
      · exact ⟨d', List.getElem?_set_self hi⟩
    · exact ⟨d2, by rw [List.getElem?_set_ne hj]; exact k2⟩
theorem ce_callO {φ : List D → Option (D × D)} {i : Nat} {a0 : Str} {p0 : Pos} (F : FnOk X.prog X.w X.K X.mg X.base CX0 k f fd ps (spO C n φ)) (hr : Room k X.A) (hg : Gl X nm) (hm : X.mg nm = some (.ref f)) (hk : PySem.W.keepIn X.K (.ref f) = true) (hb : Binds X.K fd ps [])
    (h0 : PE X (.Name a0 p0) (tVar i)) (ha : PA X es (tA C xs)) (hn : xs.length + 1 = n)
    (hdb : (nm == ("__debug__" : Str)) = false := by decide) (he : starEach (.Name a0 p0 :: es) X.env = (false, eval (.Name a0 p0) X.env) :: starEach es X.env := by rfl) (hpl : (backTo pos (starEach es X.env)).any (·.1) = false := by rfl) :
    PE X (.Call (.Name nm p) (.Name a0 p0 :: es) [] pos) (tE C (.callO φ i xs)) := (pe_call F hr hg hm hk hb .nil pass0 (pa_cons h0 ha he) hdb he hpl).imp fun σ H Q q => by
  obtain ⟨F, G0, G, pn, e, rr, e', R, he, k⟩ := q
  obtain ⟨h0, rs, e1, ds, e2, d0, d, d1, q1, q2, q3, rfl, q4⟩ := ev_callO he
  obtain ⟨p, hv⟩ : ∃ p, σ[i]? = some (some (.ref p)) := by
    unfold ownAt at h0
    split at h0
    · rename_i b hb
      have sl := R.sl i b hb
      cases b with
      | un => cases h0
      | im d => cases h0
      | ow d => obtain ⟨p, o, z, _⟩ := sl; exact ⟨p, z⟩
      | io d => obtain ⟨p, o, z, _⟩ := sl; exact ⟨p, z⟩
    · cases h0
  refine ⟨.ref p, hv, F, G0, G, pn, e, rs, e1, R, q1, fun vs G1 H1 R1 s1 r1 => ?_⟩
  obtain ⟨G2, s2, R2, r2, _⟩ := Rel.settles R1 r1 q2
  have fin : ∀ {b b' : B}, e2[i]? = some b → e' = e2.set i b' → ((b = .ow d0 ∧ b' = .ow d1) ∨ (b = .io d0 ∧ b' = .io d1)) → spO C n φ ((V.ref p :: vs) ++ []) H1 Q E0 := fun {b b'} hb hb' hc => by
    obtain ⟨o, g1, f1, t1, h1, r0⟩ : ∃ o, G2 p = none ∧ F p = none ∧ p ∉ C.tt ∧ H1 p = some o ∧ RepO C.K G2 o d0 := by
      have sl := R2.sl i b hb
      rw [hv] at sl
      rcases hc with ⟨rfl, _⟩ | ⟨rfl, _⟩
      · obtain ⟨p', o, z, z2⟩ := sl
        cases z
        exact ⟨o, z2⟩
      · obtain ⟨p', o, z, z2⟩ := sl
        cases z
        exact ⟨o, z2⟩
    refine ⟨G2, p, o, d0, vs, ds, d, d1, List.append_nil _, ?_, R2.gh, fun P hP => ⟨(R2.tb P hP).1, (R2.tb P hP).2.1⟩, g1, t1, h1, r0, r2, q3, fun v G3 H3 o3 g rv ho hr => ?_⟩
    · rw [List.append_nil, List.length_cons, r2.length, settles_len q2, evs_len q1]
      exact hn
    · have R3 := R2.own (b := b) (b' := b') hv hb (by
        rcases hc with ⟨rfl, rfl⟩ | ⟨rfl, rfl⟩
        · exact ⟨d0, d1, .inl ⟨rfl, rfl⟩⟩
        · exact ⟨d0, d1, .inr ⟨rfl, rfl⟩⟩) g ho (fun d' hd => by
        rcases hc with ⟨rfl, rfl⟩ | ⟨rfl, rfl⟩
        · cases hd; exact hr
        · cases hd; exact hr)
      rw [← hb'] at R3
      exact k v G3 H3 R3 ((s1.trans s2).trans g.gg) rv
  rcases q4 with ⟨h1, h2⟩ | ⟨h1, h2⟩
  · exact fin h1 h2 (.inl ⟨rfl, rfl⟩)
  · exact fin h1 h2 (.inr ⟨rfl, rfl⟩)
end
end Mi

/-! Targets, what is walked, comprehensions. -/
namespace Mi
open PySem PySem.Spec PyProof.Rows L2 GxR
/-! ### targets -/
mutual
def Tg.slots : Tg → List Nat
  | .nm i => [i]
  | .tp ts => Tg.slotsL ts
def Tg.slotsL : List Tg → List Nat
  | [] => []
  | t :: ts => t.slots ++ Tg.slotsL ts
end
def OffS (l : List Nat) (σ σ' : St) : Prop := σ'.length = σ.length ∧ ∀ j, j ∉ l → σ'[j]? = σ[j]?
def tG (C : Cfg) (t : Tg) : TG := fun v σ H Q => ∃ (F G0 G : Hp) (pn : Option (Nat × Addr)) (e : Env') (d : D) (e' : Env'), Rel C F G0 G H pn σ e ∧ Rep C.K G v d ∧ t.bind d e = some e' ∧ ∀ σ', Rel C F G0 G H pn σ' e' → OffS t.slots σ σ' → Q σ' H
def tGs (C : Cfg) (ts : List Tg) : TGs := fun vs σ H Q => ∃ (F G0 G : Hp) (pn : Option (Nat × Addr)) (e : Env') (ds : List D) (e' : Env'), Rel C F G0 G H pn σ e ∧ RepL C.K G vs ds ∧ Tg.binds ts ds e = some e' ∧ ∀ σ', Rel C F G0 G H pn σ' e' → OffS (Tg.slotsL ts) σ σ' → Q σ' H
section
variable {X : Cx} {C : Cfg} {F G0 G G' H H' : Hp} {pn : Option (Nat × Addr)} {σ : St} {e e' : Env'} {v : V} {d : D}
theorem _root_.L2.PG.imp {tg : Expr} {t t' : TG} (h : PG X tg t) (k : ∀ v σ H Q, t' v σ H Q → t v σ H Q) : PG X tg t' := ⟨fun pins s σ H v u Q I r q => h.run pins s σ H v u Q I r (k v σ H Q q)⟩
theorem _root_.L2.PGs.imp {tg : List Expr} {t t' : TGs} (h : PGs X tg t) (k : ∀ v σ H Q, t' v σ H Q → t v σ H Q) : PGs X tg t' := ⟨fun pins s σ H v u Q I r q => h.run pins s σ H v u Q I r (k v σ H Q q)⟩
/-- a place gets a known value -/
theorem Rel.put (R : Rel C F G0 G H pn σ e) {i : Nat} {b0 : B} (h0 : e[i]? = some b0) (hn : ∀ d, b0 ≠ .io d) (r : Rep C.K G v d) : Rel C F G0 G H pn (σ.set i (some v)) (e.set i (.im d)) := by
  have hi : i < e.length := (List.getElem?_eq_some_iff.mp h0).1
  have his : i < σ.length := by rw [R.ln]; exact hi
  have back : ∀ {j : Nat} {p : Addr}, Own (σ.set i (some v)) (e.set i (.im d)) j p → Own σ e j p := fun {j p} ⟨a1, b, a2, a3⟩ => by
    by_cases hj : i = j
    · subst hj
      rw [List.getElem?_set_self hi] at a2
      cases a2
      cases a3
    · rw [List.getElem?_set_ne hj] at a1 a2
      exact ⟨a1, b, a2, a3⟩
  refine ⟨R.fh, R.gh, R.gf, R.tb, fun j b hb => ?_, fun j k p h1 h2 => R.ap j k p (back h1) (back h2), fun j p hj => ?_, by rw [List.length_set, List.length_set]; exact R.ln⟩
  · by_cases hj : i = j
    · subst hj
      rw [List.getElem?_set_self hi] at hb
      cases hb
      exact ⟨v, List.getElem?_set_self his, r⟩
    · rw [List.getElem?_set_ne hj] at hb
      rw [List.getElem?_set_ne hj]
      exact R.sl j b hb
  · obtain ⟨k1, d', k2⟩ := R.pi j p hj
    have hne : i ≠ j := fun z => by
      subst z
      rw [h0] at k2
      exact hn d' (Option.some.inj k2)
    exact ⟨by rw [List.getElem?_set_ne hne]; exact k1, d', by rw [List.getElem?_set_ne hne]; exact k2⟩
theorem bind_nm {i : Nat} (h : (Tg.nm i).bind d e = some e') : ∃ b0, e[i]? = some b0 ∧ (∀ d, b0 ≠ .io d) ∧ e' = e.set i (.im d) := by
  unfold Tg.bind at h
  cases q : e[i]? with
  | none => rw [q] at h; cases h
  | some b =>
    rw [q] at h
    cases b with
    | io x => cases h
    | un => cases h; exact ⟨_, rfl, (fun d z => nomatch z), rfl⟩
    | im x => cases h; exact ⟨_, rfl, (fun d z => nomatch z), rfl⟩
    | ow x => cases h; exact ⟨_, rfl, (fun d z => nomatch z), rfl⟩
theorem cg_name {i : Nat} {x : Str} {pos : Pos} (h : PG X (.Name x pos) (gName i)) : PG X (.Name x pos) (tG C (.nm i)) := h.imp fun v σ H Q q => by
  obtain ⟨F, G0, G, pn, e, d, e', R, r, hb, k⟩ := q
  obtain ⟨b0, h0, hn, rfl⟩ := bind_nm hb
  exact k _ (R.put h0 hn r) ⟨List.length_set, fun j hj => List.getElem?_set_ne (fun z => hj (by subst z; exact List.mem_cons_self))⟩
theorem cgs_nil : PGs X [] (tGs C []) := pgs_nil.imp fun vs σ H Q q => by
  obtain ⟨F, G0, G, pn, e, ds, e', R, r, hb, k⟩ := q
  cases r with
  | nil =>
    unfold Tg.binds at hb
    cases hb
    exact ⟨rfl, k σ R ⟨rfl, fun j _ => rfl⟩⟩
  | cons a b => unfold Tg.binds at hb; cases hb
theorem cgs_cons {a : Expr} {as : List Expr} {t : Tg} {ts : List Tg} (h1 : PG X a (tG C t)) (h2 : PGs X as (tGs C ts))
    (hs : (assignEach (a :: as) X.env).map (·.2) = assign a X.env :: (assignEach as X.env).map (·.2) := by rfl) : PGs X (a :: as) (tGs C (t :: ts)) := (pgs_cons h1 h2 hs).imp fun vs σ H Q q => by
  obtain ⟨F, G0, G, pn, e, ds, e', R, r, hb, k⟩ := q
  cases r with
  | nil => unfold Tg.binds at hb; cases hb
  | cons ra rb =>
    unfold Tg.binds at hb
    split at hb
    · rename_i e1 q1
      refine ⟨_, _, rfl, F, G0, G, pn, e, _, e1, R, ra, q1, fun σ1 R1 o1 => ⟨F, G0, G, pn, e1, _, e', R1, rb, hb, fun σ2 R2 o2 => k σ2 R2 ⟨o2.1.trans o1.1, fun j hj => ?_⟩⟩⟩
      unfold Tg.slotsL at hj
      rw [o2.2 j (fun z => hj (List.mem_append_right _ z)), o1.2 j (fun z => hj (List.mem_append_left _ z))]
    · cases hb
theorem pgOr {a : Expr} {t t' : TG} (h : PG X a t) (h' : PG X a t') : PG X a (fun v σ H Q => t v σ H Q ∨ t' v σ H Q) := ⟨fun pins s σ H v u Q I r q => q.elim (h.run pins s σ H v u Q I r) (h'.run pins s σ H v u Q I r)⟩
theorem cg_tup {es : List Expr} {n k : Nat} {ts : List Tg} {pos : Pos} (hc : X.calm = true) (hK : C.K = X.K) (h : PGs X es (tGs C ts)) (hl : ts.length = n)
    (hn : (assignEach es X.env).length = n := by rfl) (hst : (assignEach es X.env).findIdx? (·.1) = none := by rfl) : PG X (.Tuple es k pos) (tG C (.tp ts)) := (pgOr (pg_tup (n := n) hc h hn hst) (pg_unl (n := n) hc h hn hst)).imp fun v σ H Q q => by
  obtain ⟨F, G0, G, pn, e, d, e', R, r, hb, k⟩ := q
  have bl : ∀ {ts : List Tg} {ds : List D} {e e' : Env'}, Tg.binds ts ds e = some e' → ds.length = ts.length := by
    intro ts
    induction ts with
    | nil => intro ds e e' h; cases ds with
      | nil => rfl
      | cons d ds => unfold Tg.binds at h; cases h
    | cons t ts ih => intro ds e e' h; cases ds with
      | nil => unfold Tg.binds at h; cases h
      | cons d ds =>
        unfold Tg.binds at h
        split at h
        · exact congrArg Nat.succ (ih h)
        · cases h
  cases r with
  | tup qt rl =>
    unfold Tg.bind at hb
    refine .inl ⟨_, _, rfl, ?_, by rw [rl.length, bl hb]; exact hl, F, G0, G, pn, e, _, e', R, rl, hb, fun σ' R' o => k σ' R' (by unfold Tg.slots; exact o)⟩
    rw [← hK]
    exact SqT.of (R.gh _ _ qt)
  | non => unfold Tg.bind at hb; cases hb
  | bl b => unfold Tg.bind at hb; cases hb
  | int i => unfold Tg.bind at hb; cases hb
  | str s => unfold Tg.bind at hb; cases hb
  | lst qt rl =>
    unfold Tg.bind at hb
    refine .inr ⟨_, _, rfl, ?_, by rw [rl.length, bl hb]; exact hl, F, G0, G, pn, e, _, e', R, rl, hb, fun σ' R' o => k σ' R' (by unfold Tg.slots; exact o)⟩
    rw [← hK]
    exact SqL.of (R.gh _ _ qt)
  | scr qt => unfold Tg.bind at hb; cases hb
  | dK a1 a2 a3 => unfold Tg.bind at hb; cases hb
  | dT a1 a2 a3 => unfold Tg.bind at hb; cases hb
/-! ### what is walked -/
structure Walks (C : Cfg) (G : Hp) (J : It) (items : List D) : Prop where
  go : ∀ i G1 H, i < items.length → Same G G1 → Same G1 H → J.go i H
  stop : ∀ i G1 H, i = items.length → Same G G1 → Same G1 H → J.stop i H
  yld : ∀ (i : Nat) (d : D) (G1 H H' : Hp) (x : V), items[i]? = some d → Same G G1 → Same G1 H → (∀ P ∈ C.tt, TabG H P) → J.yld i H x H' → ∃ G2, Grow C G1 H G2 H' ∧ Rep C.K G2 x d
def tI (C : Cfg) (g : List D → Option (List D)) (xs : List Ex) : TI := fun σ H R => ∃ (F G0 G : Hp) (pn : Option (Nat × Addr)) (e : Env') (rs : List Rv) (e1 : Env') (ds : List D) (e2 : Env') (items : List D), Rel C F G0 G H pn σ e ∧ evs xs e = some (rs, e1) ∧ settles e1 rs = some (ds, e2) ∧ g ds = some items ∧
  ∀ J G' H', Rel C F G0 G' H' pn σ e2 → Same G G' → Walks C G' J items → R J H'
theorem _root_.L2.PI.imp {tg it : Expr} {t t' : TI} (h : PI X tg it t) (k : ∀ σ H R, t' σ H R → t σ H R) : PI X tg it t' := ⟨fun pins s σ H R I q => h.run pins s σ H R I (k σ H R q)⟩
/-- the items of one walked thing -/
def itemsF : List D → Option (List D) := fun ds => match ds with
  | [.lst l] => some l
  | [.tup l] => some l
  | [.str s] => some (s.map fun c => .str [c])
  | _ => none
theorem walks_list {a : Addr} {xs : List V} {ds : List D} (q : SqL C.K G a xs) (r : RepL C.K G xs ds) : Walks C G (Itl C.K a) ds where
  go := fun i G1 H hi s1 s2 => by
    have hx : i < xs.length := by rw [r.length]; exact hi
    exact ⟨xs, xs[i], (s1.trans s2).seq q, List.getElem?_eq_getElem hx⟩
  stop := fun i G1 H hi s1 s2 => ⟨xs, (s1.trans s2).seq q, by rw [r.length]; exact Nat.le_of_eq hi.symm⟩
  yld := fun i d G1 H H' x hd s1 s2 t y => by
    obtain ⟨rfl, y⟩ := y
    obtain ⟨v, hv, rv⟩ := r.getD hd
    have e1 := y xs ((s1.trans s2).seq q)
    rw [hv] at e1
    cases e1
    exact ⟨G1, Grow.refl s2 t, rv.mono s1⟩
theorem walks_tup {a : Addr} {xs : List V} {ds : List D} (q : SqT C.K G a xs) (r : RepL C.K G xs ds) : Walks C G (Itt C.K a) ds where
  go := fun i G1 H hi s1 s2 => by
    have hx : i < xs.length := by rw [r.length]; exact hi
    exact ⟨xs, xs[i], (s1.trans s2).seqT q, List.getElem?_eq_getElem hx⟩
  stop := fun i G1 H hi s1 s2 => ⟨xs, (s1.trans s2).seqT q, by rw [r.length]; exact Nat.le_of_eq hi.symm⟩
  yld := fun i d G1 H H' x hd s1 s2 t y => by
    obtain ⟨rfl, y⟩ := y
    obtain ⟨v, hv, rv⟩ := r.getD hd
    have e1 := y xs ((s1.trans s2).seqT q)
    rw [hv] at e1
    cases e1
    exact ⟨G1, Grow.refl s2 t, rv.mono s1⟩
theorem walks_str {s : List Nat} : Walks C G (Its ⟨s.toArray⟩) (s.map fun c => D.str [c]) where
  go := fun i G1 H hi s1 s2 => by
    show i < s.toArray.size
    simpa using hi
  stop := fun i G1 H hi0 s1 s2 => by
    have hi := Nat.le_of_eq hi0.symm
    show s.toArray.size ≤ i
    simpa using hi
  yld := fun i d G1 H H' x hd s1 s2 t y => by
    obtain ⟨rfl, c, hc, rfl⟩ := y
    refine ⟨G1, Grow.refl s2 t, ?_⟩
    rw [List.getElem?_map] at hd
    have hc' : s[i]? = some c := by simpa using hc
    rw [hc'] at hd
    cases hd
    exact .str [c]
theorem tE_one {f : List D → Option (List D)} {x : Ex} {rs : List Rv} {e1 : Env'} (h : evs [x] e = some (rs, e1)) : ∃ r, ev x e = some (r, e1) ∧ rs = [r] := by
  unfold evs at h
  split at h
  · rename_i r e2 q
    unfold evs at h
    cases h
    exact ⟨r, q, rfl⟩
  · cases h
theorem settles_one {r : Rv} {ds : List D} {e1 e2 : Env'} (h : settles e1 [r] = some (ds, e2)) : ∃ d, r.settle e1 = some (d, e2) ∧ ds = [d] := by
  unfold settles at h
  split at h
  · rename_i d e3 q
    unfold settles at h
    cases h
    exact ⟨d, q, rfl⟩
  · cases h
/-- a list -/
def listF : List D → Option (List D) := fun ds => match ds with
  | [.lst l] => some l
  | _ => none
def tupF : List D → Option (List D) := fun ds => match ds with
  | [.tup l] => some l
  | _ => none
def strF : List D → Option (List D) := fun ds => match ds with
  | [.str s] => some (s.map fun c => .str [c])
  | _ => none
variable {tg a : Expr} {x : Ex}
theorem ci_list (hK : C.K = X.K) (ha : PE X a (tE C x)) : PI X tg a (tI C listF [x]) := (pi_list ha).imp fun σ H R q => by
  obtain ⟨F, G0, G, pn, e, rs, e1, ds, e2, items, Rr, q1, q2, q3, k⟩ := q
  obtain ⟨r, q4, rfl⟩ := tE_one (f := listF) q1
  obtain ⟨d, q5, rfl⟩ := settles_one q2
  refine ⟨F, G0, G, pn, e, r, e1, Rr, q4, fun v G1 H1 R1 s1 rv => ?_⟩
  obtain ⟨G2, s2, R2, r2, _⟩ := R1.settle rv q5
  unfold listF at q3
  split at q3
  · rename_i l hl
    cases hl
    cases q3
    cases r2 with
    | lst qq rr =>
      refine ⟨_, rfl, ⟨_, SqL.of (R2.gh _ _ qq)⟩, ?_⟩
      rw [← hK]
      exact k _ G2 H1 R2 (s1.trans s2) (walks_list (SqL.of qq) rr)
  · cases q3
theorem ci_tup (hK : C.K = X.K) (ha : PE X a (tE C x)) : PI X tg a (tI C tupF [x]) := (pi_tup ha).imp fun σ H R q => by
  obtain ⟨F, G0, G, pn, e, rs, e1, ds, e2, items, Rr, q1, q2, q3, k⟩ := q
  obtain ⟨r, q4, rfl⟩ := tE_one (f := tupF) q1
  obtain ⟨d, q5, rfl⟩ := settles_one q2
  refine ⟨F, G0, G, pn, e, r, e1, Rr, q4, fun v G1 H1 R1 s1 rv => ?_⟩
  obtain ⟨G2, s2, R2, r2, _⟩ := R1.settle rv q5
  unfold tupF at q3
  split at q3
  · rename_i l hl
    cases hl
    cases q3
    cases r2 with
    | tup qq rr =>
      refine ⟨_, rfl, ⟨_, SqT.of (R2.gh _ _ qq)⟩, ?_⟩
      rw [← hK]
      exact k _ G2 H1 R2 (s1.trans s2) (walks_tup (SqT.of qq) rr)
  · cases q3
theorem ci_str (ha : PE X a (tE C x)) : PI X tg a (tI C strF [x]) := (pi_str ha).imp fun σ H R q => by
  obtain ⟨F, G0, G, pn, e, rs, e1, ds, e2, items, Rr, q1, q2, q3, k⟩ := q
  obtain ⟨r, q4, rfl⟩ := tE_one (f := strF) q1
  obtain ⟨d, q5, rfl⟩ := settles_one q2
  refine ⟨F, G0, G, pn, e, r, e1, Rr, q4, fun v G1 H1 R1 s1 rv => ?_⟩
  obtain ⟨G2, s2, R2, r2, _⟩ := R1.settle rv q5
  unfold strF at q3
  split at q3
  · rename_i l hl
    cases hl
    cases q3
    cases r2 with
    | str s => exact ⟨_, rfl, k _ G2 H1 R2 (s1.trans s2) walks_str⟩
  · cases q3
def rangeL (a : Int) (n : Nat) (c : Int) : List D := (List.range n).map fun (i : Nat) => D.int (a + (i : Int) * c)
theorem rangeL_get {a c : Int} {n i : Nat} {d : D} (h : (rangeL a n c)[i]? = some d) : d = .int (a + (i : Int) * c) := by
  unfold rangeL at h
  rw [List.getElem?_map] at h
  cases q : (List.range n)[i]? with
  | none => rw [q] at h; cases h
  | some j =>
    rw [q] at h
    cases h
    have : j = i := by
      have := (List.getElem?_eq_some_iff.mp q).2
      simpa using this.symm
    rw [this]
def range1F : List D → Option (List D) := fun ds => match ds with
  | [.int n] => if n < 4611686018427387904 ∧ -4611686018427387904 ≤ n then some (rangeL 0 n.toNat 1) else none
  | _ => none
def range2F : List D → Option (List D) := fun ds => match ds with
  | [.int a, .int b] => if (a < 4611686018427387904 ∧ -4611686018427387904 ≤ a) ∧ (b < 4611686018427387904 ∧ -4611686018427387904 ≤ b) then some (rangeL a (b - a).toNat 1) else none
  | _ => none
/-- a step of -1 -/
def rangeDF : List D → Option (List D) := fun ds => match ds with
  | [.int a, .int b, .int c] => if c = -1 ∧ (a < 4611686018427387904 ∧ -4611686018427387904 ≤ a) ∧ (b < 4611686018427387904 ∧ -4611686018427387904 ≤ b) then some (rangeL a (a - b).toNat (-1)) else none
  | _ => none
theorem walks_r {lo : Int} {n : Nat} : Walks C G (Itr lo n) (rangeL lo n 1) where
  go := fun i G1 H hi s1 s2 => by
    show i < n
    simpa [rangeL] using hi
  stop := fun i G1 H hi0 s1 s2 => by
    have hi := Nat.le_of_eq hi0.symm
    show n ≤ i
    simpa [rangeL] using hi
  yld := fun i d G1 H H' x hd s1 s2 t y => by
    obtain ⟨rfl, rfl⟩ := y
    rw [rangeL_get hd, Int.mul_one]
    exact ⟨G1, Grow.refl s2 t, .int _⟩
theorem walks_rC {lo c : Int} {n : Nat} : Walks C G (Itc lo c n) (rangeL lo n c) where
  go := fun i G1 H hi s1 s2 => by
    show i < n
    simpa [rangeL] using hi
  stop := fun i G1 H hi0 s1 s2 => by
    have hi := Nat.le_of_eq hi0.symm
    show n ≤ i
    simpa [rangeL] using hi
  yld := fun i d G1 H H' x hd s1 s2 t y => by
    obtain ⟨rfl, rfl⟩ := y
    rw [rangeL_get hd]
    exact ⟨G1, Grow.refl s2 t, .int _⟩
/-- the arguments' values, all scalars -/
theorem tA_ints {f : List D → Option (List D)} {xs : List Ex} {σ : St} {H : Hp} {R : It → Hp → Prop} {T : List V → Hp → Prop} (q : tI C f xs σ H R)
    (h : ∀ (vs : List V) (ds : List D) (items : List D) (G1 H1 : Hp), RepL C.K G1 vs ds → f ds = some items → (∀ J, (∀ G', Walks C G' J items) → R J H1) → T vs H1) : tA C xs σ H T := by
  obtain ⟨F, G0, G, pn, e, rs, e1, ds, e2, items, Rr, q1, q2, q3, k⟩ := q
  refine ⟨F, G0, G, pn, e, rs, e1, Rr, q1, fun vs G1 H1 R1 s1 r1 => ?_⟩
  obtain ⟨G2, s2, R2, r2, _⟩ := Rel.settles R1 r1 q2
  exact h vs ds items G2 H1 r2 q3 fun J w => k J G2 H1 R2 (s1.trans s2) (w G2)
variable {b c : Expr} {y z : Ex} {p pos : Pos}
theorem ci_range1 (hg : Gl X "range") (hm : X.mg "range" = none) (ha : PA X [a] (tA C [x])) (hs : starEach [a] X.env = [(false, eval a X.env)] := by rfl) : PI X tg (.Call (.Name "range" p) [a] [] pos) (tI C range1F [x]) := (pi_range1 hg hm ha hs).imp fun σ H R q => by
  refine tA_ints q fun vs ds items G1 H1 r h k => ?_
  unfold range1F at h
  split at h
  · split at h
    · rename_i n hn
      cases h
      cases r with
      | cons r0 rr =>
        cases r0
        cases rr
        refine ⟨n, rfl, ?_, ?_, k _ fun G' => walks_r⟩
        · have := hn.2; omega
        · have := hn.1; omega
    · cases h
  · cases h
theorem ci_range2 (hg : Gl X "range") (hm : X.mg "range" = none) (ha : PA X [a, b] (tA C [x, y])) (hs : starEach [a, b] X.env = [(false, eval a X.env), (false, eval b X.env)] := by rfl) (hs2 : starEach [b] X.env = [(false, eval b X.env)] := by rfl) :
    PI X tg (.Call (.Name "range" p) [a, b] [] pos) (tI C range2F [x, y]) := (pi_range2 hg hm ha hs hs2).imp fun σ H R q => by
  refine tA_ints q fun vs ds items G1 H1 r h k => ?_
  unfold range2F at h
  split at h
  · split at h
    · rename_i n m hn
      cases h
      cases r with
      | cons r0 rr =>
        cases r0
        cases rr with
        | cons r0 rr =>
          cases r0
          cases rr
          refine ⟨n, m, rfl, ?_, k _ fun G' => walks_r⟩
          have h1 := hn.1.1
          have h2 := hn.1.2
          have h3 := hn.2.1
          have h4 := hn.2.2
          omega
    · cases h
  · cases h
theorem ci_rangeD (hg : Gl X "range") (hm : X.mg "range" = none) (ha : PA X [a, b, c] (tA C [x, y, z])) (h : PI X tg (.Call (.Name "range" p) [a, b, c] [] pos) (iRng3 (tA C [x, y, z]))) :
    PI X tg (.Call (.Name "range" p) [a, b, c] [] pos) (tI C rangeDF [x, y, z]) := h.imp fun σ H R q => by
  refine tA_ints q fun vs ds items G1 H1 r h k => ?_
  unfold rangeDF at h
  split at h
  · split at h
    · rename_i n m c0 hn
      cases h
      cases r with
      | cons r0 rr =>
        cases r0
        cases rr with
        | cons r0 rr =>
          cases r0
          cases rr with
          | cons r0 rr =>
            cases r0
            cases rr
            obtain ⟨hc, ⟨h1, h2⟩, h3, h4⟩ := hn
            subst hc
            refine ⟨n, m, -1, (n - m).toNat, rfl, RgC.neg (by omega) (by omega) (by omega) (by omega), k _ fun G' => walks_rC⟩
    · cases h
  · cases h
end
end Mi

/-! Comprehensions, statements, functions. -/
namespace Mi
open PySem PySem.Spec PyProof.Rows L2 GxR
section
variable {X : Cx} {C : Cfg} {F G0 G G' H H' : Hp} {pn : Option (Nat × Addr)} {σ : St} {e e' : Env'} {v : V} {d : D}
/-! ### list comprehensions -/
theorem wipe_off {i : Nat} : ∀ {vs : List Nat}, i ∉ vs → (wipe σ vs)[i]? = σ[i]?
  | [], _ => rfl
  | v :: vs, h => by
    unfold wipe
    rw [List.getElem?_set_ne (fun z => h (by rw [z]; exact List.mem_cons_self))]
    exact wipe_off (fun z => h (List.mem_cons_of_mem _ z))
theorem Rel.wipe (R : Rel C F G0 G H pn σ e) {vs : List Nat} (hp : ∀ i p, pn = some (i, p) → i ∉ vs) : Rel C F G0 G H pn (L2.wipe σ vs) (wipeE e vs) := by
  have keep : ∀ {i : Nat} {b : B}, (wipeE e vs)[i]? = some b → b = .un ∨ (i ∉ vs ∧ e[i]? = some b) := fun {i b} hb => by
    by_cases hi : i ∈ vs
    · exact .inl (wipeE_in hi hb)
    · exact .inr ⟨hi, by rw [← wipeE_off hi]; exact hb⟩
  have back : ∀ {j : Nat} {p : Addr}, Own (L2.wipe σ vs) (wipeE e vs) j p → Own σ e j p := fun {j p} ⟨a1, b, a2, a3⟩ => by
    rcases keep a2 with z | ⟨hi, z⟩
    · rw [z] at a3; cases a3
    · exact ⟨by rw [← wipe_off hi]; exact a1, b, z, a3⟩
  refine ⟨R.fh, R.gh, R.gf, R.tb, fun i b hb => ?_, fun i j p h1 h2 => R.ap i j p (back h1) (back h2), fun i p hi => ?_, by rw [wipe_length, wipeE_len]; exact R.ln⟩
  · rcases keep hb with rfl | ⟨hi, z⟩
    · trivial
    · rw [wipe_off hi]; exact R.sl i b z
  · obtain ⟨k1, d', k2⟩ := R.pi i p hi
    have hv := hp i p hi
    exact ⟨by rw [wipe_off hv]; exact k1, d', by rw [wipeE_off hv]; exact k2⟩
theorem soft_at {vs : List Nat} (h : softE e vs = true) {i : Nat} (hi : i ∈ vs) : ∃ b, e[i]? = some b ∧ b.isOw = false := by
  have q := List.all_eq_true.mp h i hi
  split at q
  · rename_i b hb
    exact ⟨b, hb, by simpa using q⟩
  · cases q
/-- the outer places again -/
theorem Rel.back {G2 H2 : Hp} {vs : List Nat} {e7 : Env'} (R0 : Rel C F G0 G H pn σ e) (hs : softE e vs = true) (R : Rel C F G0 G2 H2 pn (L2.wipe σ vs) e7) (s : Same G G2) : Rel C F G0 G2 H2 pn σ (backE e e7 vs) := by
  have ll : e.length = e7.length := by rw [← R0.ln, ← R.ln, wipe_length]
  have keep : ∀ {i : Nat} {b : B}, (backE e e7 vs)[i]? = some b → (i ∈ vs ∧ e[i]? = some b ∧ b.isOw = false) ∨ (i ∉ vs ∧ e7[i]? = some b) := fun {i b} hb => by
    by_cases hi : i ∈ vs
    · obtain ⟨b2, h1, h2⟩ := soft_at hs hi
      rw [backE_in ll hi h1] at hb
      cases hb
      exact .inl ⟨hi, h1, h2⟩
    · exact .inr ⟨hi, by rw [← backE_off hi]; exact hb⟩
  have back : ∀ {j : Nat} {p : Addr}, Own σ (backE e e7 vs) j p → Own (L2.wipe σ vs) e7 j p := fun {j p} ⟨a1, b, a2, a3⟩ => by
    rcases keep a2 with ⟨_, _, z⟩ | ⟨hi, z⟩
    · rw [z] at a3; cases a3
    · exact ⟨by rw [wipe_off hi]; exact a1, b, z, a3⟩
  refine ⟨R.fh, R.gh, R.gf, R.tb, fun i b hb => ?_, fun i j p h1 h2 => R.ap i j p (back h1) (back h2), fun i p hi => ?_, by rw [backE_len, ← ll]; exact R0.ln⟩
  · rcases keep hb with ⟨_, z, zo⟩ | ⟨hi, z⟩
    · have q := R0.sl i b z
      cases b with
      | un => trivial
      | im d =>
        obtain ⟨w, k1, k2⟩ := q
        exact ⟨w, k1, k2.mono s⟩
      | ow d => cases zo
      | io d => cases zo
    · have q := R.sl i b z
      rw [wipe_off hi] at q
      exact q
  · obtain ⟨k1, d', k2⟩ := R0.pi i p hi
    have hv : i ∉ vs := fun z => by
      obtain ⟨b, h1, h2⟩ := soft_at hs z
      rw [k2] at h1
      cases h1
      cases h2
    obtain ⟨k3, d2, k4⟩ := R.pi i p hi
    exact ⟨k1, d2, by rw [backE_off hv]; exact k4⟩
/-- one more thing that stands as it is -/
theorem Rel.frame {Dp : Addr} {o : HO} (R : Rel C F G0 G H pn σ e) (hD : H Dp = some o) (gD : G Dp = none) (ho : ∀ i, ¬ Own σ e i Dp) (ht : Dp ∉ C.tt) : Rel C (upd F Dp o) (upd G0 Dp o) G H pn σ e → True := fun _ => trivial
/-- G0 at one more place -/
def noG (G : Hp) (p : Addr) : Hp := fun b => if b = p then none else G b
theorem Rel.fr1 {Dp : Addr} {o : HO} (R : Rel C F G0 G H pn σ e) (hD : H Dp = some o) (gD : G Dp = none) (fD : F Dp = none) (ho : ∀ i, ¬ Own σ e i Dp) (ht : Dp ∉ C.tt) : Rel C (upd F Dp o) (noG G0 Dp) G H pn σ e := by
  refine ⟨fun b u h => ?_, R.gh, fun b h hn => ?_, fun P hP => ⟨(R.tb P hP).1, (R.tb P hP).2.1, ?_⟩, fun i b hb => ?_, R.ap, R.pi, R.ln⟩
  · by_cases z : b = Dp
    · rw [z, upd_same] at h; cases h; rw [z]; exact hD
    · rw [upd_ne z] at h; exact R.fh b u h
  · unfold noG
    by_cases z : b = Dp
    · rw [if_pos z, z]; exact gD
    · rw [if_neg z]; rw [upd_ne z] at h hn; exact R.gf b h hn
  · rw [upd_ne (fun z => ht (by rw [← z]; exact hP))]; exact (R.tb P hP).2.2
  · have q := R.sl i b hb
    cases b with
    | un => trivial
    | im d => exact q
    | ow d =>
      obtain ⟨p, o', k0, k1, k2, k3, k4, k5⟩ := q
      exact ⟨p, o', k0, k1, by rw [upd_ne (fun z => ho i (by rw [← z]; exact ⟨k0, _, hb, rfl⟩))]; exact k2, k3, k4, k5⟩
    | io d =>
      obtain ⟨p, o', k0, k1, k2, k3, k4, k5⟩ := q
      exact ⟨p, o', k0, k1, by rw [upd_ne (fun z => ho i (by rw [← z]; exact ⟨k0, _, hb, rfl⟩))]; exact k2, k3, k4, k5⟩
/-- .. left, changed -/
theorem Rel.un1 {Dp : Addr} {o o' : HO} (R : Rel C (upd F Dp o) (noG G0 Dp) G H pn σ e) (fD : F Dp = none) (ht : Dp ∉ C.tt) (ho1 : NT (some o) := by (intro xs z; cases z)) : H Dp = some o ∧ G Dp = none ∧ (∀ i, ¬ Own σ e i Dp) ∧ Rel C F G0 G (upd H Dp o') pn σ e := by
  have gD : G Dp = none := by
    have q := R.gf Dp (by rw [upd_same]; exact fun z => nomatch z) (by rw [upd_same]; exact ho1)
    rw [q]
    unfold noG
    rw [if_pos rfl]
  have ho : ∀ i, ¬ Own σ e i Dp := fun i ⟨a1, b, a2, a3⟩ => by
    have q := R.sl i b a2
    rw [a1] at q
    cases b with
    | un => cases a3
    | im d => cases a3
    | ow d =>
      obtain ⟨p, o', k0, k1, k2, _⟩ := q
      cases k0
      rw [upd_same] at k2
      cases k2
    | io d =>
      obtain ⟨p, o', k0, k1, k2, _⟩ := q
      cases k0
      rw [upd_same] at k2
      cases k2
  refine ⟨R.fh Dp o upd_same, gD, ho, ⟨fun b u h => ?_, fun b u h => ?_, fun b h hn => ?_, fun P hP => ⟨?_, (R.tb P hP).2.1, ?_⟩, fun i b hb => ?_, R.ap, R.pi, R.ln⟩⟩
  · have hb := ne_of_none h fD
    rw [upd_ne hb]
    exact R.fh b u (by rw [upd_ne hb]; exact h)
  · rw [upd_ne (ne_of_none h gD)]; exact R.gh b u h
  · have hb : b ≠ Dp := fun z => h (by rw [z]; exact fD)
    have q := R.gf b (by rw [upd_ne hb]; exact h) (by rw [upd_ne hb]; exact hn)
    rw [q]
    unfold noG
    rw [if_neg hb]
  · obtain ⟨ps, h1, h2⟩ := (R.tb P hP).1
    exact ⟨ps, by rw [upd_ne (fun z => ht (by rw [← z]; exact hP))]; exact h1, h2⟩
  · have q := (R.tb P hP).2.2
    rw [upd_ne (fun z => ht (by rw [← z]; exact hP))] at q
    exact q
  · have q := R.sl i b hb
    cases b with
    | un => trivial
    | im d => exact q
    | ow d =>
      obtain ⟨p, o', k0, k1, k2, k3, k4, k5⟩ := q
      have hp : p ≠ Dp := fun z => ho i (by rw [← z]; exact ⟨k0, _, hb, rfl⟩)
      rw [upd_ne hp] at k2
      exact ⟨p, o', k0, k1, k2, k3, by rw [upd_ne hp]; exact k4, k5⟩
    | io d =>
      obtain ⟨p, o', k0, k1, k2, k3, k4, k5⟩ := q
      have hp : p ≠ Dp := fun z => ho i (by rw [← z]; exact ⟨k0, _, hb, rfl⟩)
      rw [upd_ne hp] at k2
      exact ⟨p, o', k0, k1, k2, k3, by rw [upd_ne hp]; exact k4, k5⟩
/-- the tests of a comprehension -/
def tTs (C : Cfg) (cs : List Ex) : TT := fun σ H Q => ∃ (F G0 G : Hp) (pn : Option (Nat × Addr)) (e : Env') (e' : Env') (b : Bool), Rel C F G0 G H pn σ e ∧ evt cs e = some (b, e') ∧ ∀ G' H', Rel C F G0 G' H' pn σ e' → Same G G' → Q b H'
theorem _root_.L2.PTs.imp {ifs : List Expr} {t t' : TT} (h : PTs X ifs t) (k : ∀ σ H Q, t' σ H Q → t σ H Q) : PTs X ifs t' := ⟨fun pins s σ H Q I q => h.run pins s σ H Q I (k σ H Q q)⟩
theorem cts_nil : PTs X [] (tTs C []) := pts_nil.imp fun σ H Q q => by
  obtain ⟨F, G0, G, pn, e, e', b, R, he, k⟩ := q
  unfold evt at he
  cases he
  exact k G H R (Same.refl G)
theorem cts_one {c : Expr} {x : Ex} (h : PT X c (tT C x)) : PTs X [c] (tTs C [x]) := (pts_one h).imp fun σ H Q q => by
  obtain ⟨F, G0, G, pn, e, e', b, R, he, k⟩ := q
  unfold evt at he
  split at he
  · rename_i r e1 q1
    split at he
    · rename_i d q2
      split at he
      · rename_i b2 q3
        cases he
        exact ⟨F, G0, G, pn, e, r, _, d, _, R, q1, q2, q3, k⟩
      · cases he
    · cases he
  · cases he
theorem ev_lc {g : List D → Option (List D)} {xs : List Ex} {vs : List Nat} {tg : Tg} {cs : List Ex} {x : Ex} {r : Rv} (h : ev (.lc g xs vs tg cs x) e = some (r, e')) :
    ∃ rs e1 ds e2 items ys e7, evs xs e = some (rs, e1) ∧ settles e1 rs = some (ds, e2) ∧ g ds = some items ∧ softE e2 vs = true ∧
      lcLoop (lcTurn tg vs (fun e => evt cs e) (fun e => ev x e)) items (wipeE e2 vs) = some (ys, e7) ∧ ys.length ≤ 16000000 ∧ r = .pers (.lst ys) ∧ e' = backE e2 e7 vs := by
  unfold ev at h
  split at h
  · rename_i rs e1 q1
    split at h
    · rename_i ds e2 q2
      split at h
      · rename_i items q3
        split at h
        · rename_i hs
          split at h
          · rename_i ys e7 q4
            split at h
            · rename_i hz
              cases h
              exact ⟨rs, e1, ds, e2, items, ys, e7, q1, q2, q3, hs, q4, hz, rfl, rfl⟩
            · cases h
          · cases h
        · cases h
      · cases h
    · cases h
  · cases h
theorem lcLoop_cons {f : D → Env' → Option (List D × Env')} {d : D} {ds : List D} {ys : List D} (h : lcLoop f (d :: ds) e = some (ys, e')) : ∃ y1 e1 y2, f d e = some (y1, e1) ∧ lcLoop f ds e1 = some (y2, e') ∧ ys = y1 ++ y2 := by
  unfold lcLoop at h
  split at h
  · rename_i y1 e1 q1
    split at h
    · rename_i y2 e2 q2
      cases h
      exact ⟨y1, e1, y2, q1, q2, rfl⟩
    · cases h
  · cases h
theorem wipe_in {i : Nat} : ∀ {vs : List Nat}, i ∈ vs → (L2.wipe σ vs)[i]? = if i < σ.length then some none else none
  | v :: vs, h => by
    unfold L2.wipe
    by_cases hv : v = i
    · subst hv
      by_cases hlt : v < σ.length
      · rw [if_pos hlt, List.getElem?_set_self (by rw [wipe_length]; exact hlt)]
      · rw [if_neg hlt, List.getElem?_eq_none (by rw [List.length_set, wipe_length]; omega)]
    · rw [List.getElem?_set_ne hv]
      rcases List.mem_cons.mp h with z | z
      · exact absurd z.symm hv
      · exact wipe_in z
theorem offS_wipe {vs l : List Nat} {σ σ' : St} (hl : ∀ i ∈ l, i ∈ vs) (o : OffS l (L2.wipe σ vs) σ') : L2.wipe σ' vs = L2.wipe σ vs := by
  have hle : σ'.length = σ.length := by rw [o.1, wipe_length]
  apply List.ext_getElem?
  intro i
  by_cases hi : i ∈ vs
  · rw [wipe_in hi, wipe_in hi, hle]
  · rw [wipe_off hi, o.2 i (fun z => hi (hl i z))]
/-- the comprehension, turn by turn; J: what is walked -/
theorem lc_turns {vs : List Nat} {tg : Tg} {cs : List Ex} {x : Ex} (hsl : ∀ i ∈ tg.slots, i ∈ vs) {σ : St} {items : List D} {J : It} {D0 : Addr} {G1 : Hp} {ys : List D} {e7 : Env'} {Qd : Hp → Prop}
    (W1 : Walks C G1 J items) (fD : F D0 = none) (tD : D0 ∉ C.tt) (hp : ∀ i p, pn = some (i, p) → i ∉ vs) {acc0 : List V} {ys0 : List D} (hz : (ys0 ++ ys).length ≤ 16000000) {H0 : Hp} {e0 : Env'}
    (R0 : Rel C (upd F D0 (.lst acc0)) (noG G0 D0) G1 H0 pn (L2.wipe σ vs) e0) (ra0 : RepL C.K G1 acc0 ys0) (hl0 : lcLoop (lcTurn tg vs (fun e => evt cs e) (fun e => ev x e)) items e0 = some (ys, e7))
    (hend : ∀ (G2 H2 : Hp) (acc : List V), Same G1 G2 → Rel C (upd F D0 (.lst acc)) (noG G0 D0) G2 H2 pn (L2.wipe σ vs) e7 → RepL C.K G2 acc (ys0 ++ ys) → Qd H2) :
    ∃ W : Nat → Nat → Hp → Prop, (∃ m, W 0 m H0) ∧ ∀ i m H, W i m H →
      (J.stop i H ∧ Qd H) ∨ (J.go i H ∧ ∃ Nx : Hp → Prop, (∀ H', Nx H' → ∃ m', m' < m ∧ W (i + 1) m' H') ∧ ∀ x0 H', J.yld i H x0 H' → tG C tg x0 (L2.wipe σ vs) H' fun σ2 H2 => L2.wipe σ2 vs = L2.wipe σ vs ∧ tTs C cs σ2 H2 fun b H3 =>
        if b = true then tE C x σ2 H3 fun y H4 => ∃ acc, H4 D0 = some (.lst acc) ∧ acc.length < sizeLine ∧ Nx (upd H4 D0 (.lst (acc ++ [y]))) else Nx H3) := by
  let P : Nat → Hp → Prop := fun i H => ∃ (G2 : Hp) (e3 : Env') (acc : List V) (y1 y2 : List D), Same G1 G2 ∧ Rel C (upd F D0 (.lst acc)) (noG G0 D0) G2 H pn (L2.wipe σ vs) e3 ∧ RepL C.K G2 acc y1 ∧
    lcLoop (lcTurn tg vs (fun e => evt cs e) (fun e => ev x e)) (items.drop i) e3 = some (y2, e7) ∧ y1 ++ y2 = ys0 ++ ys ∧ i ≤ items.length
  refine ⟨fun i m H => m = items.length - i ∧ P i H, ⟨_, rfl, G1, e0, acc0, ys0, ys, Same.refl G1, R0, ra0, hl0, rfl, Nat.zero_le _⟩, ?_⟩
  rintro i m H2 ⟨rfl, G2, e3, acc, y1, y2, s2, R2, ra, hl, hy, hi⟩
  by_cases hlt : i < items.length
  · refine .inr ⟨W1.go i G2 H2 hlt s2 R2.gh, fun H' => P (i + 1) H', fun H' p => ⟨items.length - (i + 1), by omega, rfl, p⟩, fun x0 H3 yl => ?_⟩
    have hget : items[i]? = some items[i] := List.getElem?_eq_getElem hlt
    obtain ⟨G3, gr, rx⟩ := W1.yld i _ G2 H2 H3 x0 hget s2 R2.gh R2.tabs yl
    have R3 := R2.grow gr
    rw [List.drop_eq_getElem_cons hlt] at hl
    obtain ⟨y3, e4, y4, t1, t2, rfl⟩ := lcLoop_cons hl
    unfold lcTurn at t1
    have hacc : ∀ y : List D, acc.length + y.length = (y1 ++ y).length := fun y => by rw [ra.length, List.length_append]
    split at t1
    · rename_i e5 b1
      refine ⟨_, _, G3, pn, e3, _, e5, R3, rx, b1, fun σ5 R5 o5 => ?_⟩
      have hw := offS_wipe hsl o5
      refine ⟨hw, ?_⟩
      split at t1
      · rename_i e6 h6
        refine ⟨_, _, G3, pn, e5, e6, true, R5, h6, fun G4 H4 R4 s4 => iteT ?_⟩
        split at t1
        · rename_i r7 e8 h7
          split at t1
          · rename_i y e9 h8
            cases t1
            refine ⟨_, _, G4, pn, e6, r7, e8, R4, h7, fun v G5 H5 R5' s5 rv => ?_⟩
            obtain ⟨G6, s6, R6, r6, _⟩ := R5'.settle rv h8
            obtain ⟨u1, u2, u3, u4⟩ := R6.un1 (o' := .lst (acc ++ [v])) fD tD
            have s26 : Same G2 G6 := ((gr.gg.trans s4).trans s5).trans s6
            refine ⟨acc, u1, ?_, G6, wipeE e9 vs, acc ++ [v], y1 ++ [y], y4, s2.trans s26, ?_, (ra.mono s26).append (.cons r6 .nil), t2, ?_, by omega⟩
            · have h9 := lim16 hz
              rw [← hy] at h9
              have : acc.length < (y1 ++ ([y] ++ y4)).length := by
                rw [List.length_append, List.length_append, ra.length]
                simp only [List.length_cons, List.length_nil]
                omega
              omega
            · have R7 := (u4.fr1 (o := .lst (acc ++ [v])) upd_same u2 fD u3 tD).wipe hp
              rw [hw] at R7
              exact R7
            · rw [← hy, List.append_assoc]
          · cases t1
        · cases t1
      · rename_i e6 h6
        cases t1
        refine ⟨_, _, G3, pn, e5, e6, false, R5, h6, fun G4 H4 R4 s4 => iteF ?_⟩
        have s24 : Same G2 G4 := gr.gg.trans s4
        have R7 := R4.wipe hp
        rw [hw] at R7
        exact ⟨G4, wipeE e6 vs, acc, y1, y4, s2.trans s24, R7, ra.mono s24, t2, hy, by omega⟩
      · cases t1
    · cases t1
  · have hid : items.drop i = [] := List.drop_eq_nil_of_le (by omega)
    rw [hid] at hl
    unfold lcLoop at hl
    cases hl
    rw [List.append_nil] at hy
    subst hy
    exact .inl ⟨W1.stop i G2 H2 (by omega) s2 R2.gh, hend G2 H2 acc s2 R2 ra⟩
theorem wipe_wipe {vs1 vs : List Nat} (h : ∀ i ∈ vs1, i ∈ vs) (σ : St) : L2.wipe (L2.wipe σ vs1) vs = L2.wipe σ vs := by
  apply List.ext_getElem?
  intro i
  by_cases hi : i ∈ vs
  · rw [wipe_in hi, wipe_in hi, wipe_length]
  · rw [wipe_off hi, wipe_off hi, wipe_off (fun z => hi (h i z))]
/-- two loops, turn by turn -/
theorem lc2_turns {vs vs1 : List Nat} {tg tg2 : Tg} {cs1 cs : List Ex} {g2 : List D → Option (List D)} {as2 : List Ex} {x : Ex} (hv1 : ∀ i ∈ vs1, i ∈ vs) (hsl : ∀ i ∈ tg.slots, i ∈ vs) (hsl2 : ∀ i ∈ tg2.slots, i ∈ vs1) {σ : St} {items : List D} {J : It} {D0 : Addr} {G1 : Hp} {ys : List D} {e7 : Env'} {Qd : Hp → Prop}
    (W1 : Walks C G1 J items) (fD : F D0 = none) (tD : D0 ∉ C.tt) (hp : ∀ i p, pn = some (i, p) → i ∉ vs) (hz : ys.length ≤ 16000000) {H0 : Hp} {e0 : Env'}
    (R0 : Rel C (upd F D0 (.lst [])) (noG G0 D0) G1 H0 pn (L2.wipe σ vs) e0) (hl0 : lcLoop (lc2Turn tg vs vs1 tg2 (fun e => evt cs1 e) (fun e => match evs as2 e with
            | some (rs, e5) => (match settles e5 rs with
              | some (ds, e6) => (match g2 ds with
                | some l => some (l, e6)
                | none => none)
              | none => none)
            | none => none) (fun e => evt cs e) (fun e => ev x e)) items e0 = some (ys, e7))
    (hend : ∀ (G2 H2 : Hp) (acc : List V), Same G1 G2 → Rel C (upd F D0 (.lst acc)) (noG G0 D0) G2 H2 pn (L2.wipe σ vs) e7 → RepL C.K G2 acc ys → Qd H2) :
    ∃ W : Nat → Nat → Hp → Prop, (∃ m, W 0 m H0) ∧ ∀ i m H, W i m H →
      (J.stop i H ∧ Qd H) ∨ (J.go i H ∧ ∃ Nx : Hp → Prop, (∀ H', Nx H' → ∃ m', m' < m ∧ W (i + 1) m' H') ∧ ∀ x0 H', J.yld i H x0 H' → tG C tg x0 (L2.wipe σ vs) H' fun σ2 H2 => L2.wipe σ2 vs = L2.wipe σ vs ∧ tTs C cs1 σ2 H2 fun b H3 =>
        if b = true then tI C g2 as2 σ2 H3 fun J1 H4 => ∃ W1 : Nat → Nat → Hp → Prop, (∃ m, W1 0 m H4) ∧ ∀ j k H, W1 j k H →
          (J1.stop j H ∧ Nx H) ∨ (J1.go j H ∧ ∃ Nx1 : Hp → Prop, (∀ H', Nx1 H' → ∃ k', k' < k ∧ W1 (j + 1) k' H') ∧ ∀ x1 H', J1.yld j H x1 H' → tG C tg2 x1 (L2.wipe σ2 vs1) H' fun σ3 H5 => L2.wipe σ3 vs1 = L2.wipe σ2 vs1 ∧ tTs C cs σ3 H5 fun b H6 =>
            if b = true then tE C x σ3 H6 fun y H7 => ∃ acc, H7 D0 = some (.lst acc) ∧ acc.length < sizeLine ∧ Nx1 (upd H7 D0 (.lst (acc ++ [y]))) else Nx1 H6)
        else Nx H3) := by
  let lp : Mi.D → Env' → Option (List Mi.D × Env') := lc2Turn tg vs vs1 tg2 (fun e => evt cs1 e) (fun e => match evs as2 e with
            | some (rs, e5) => (match settles e5 rs with
              | some (ds, e6) => (match g2 ds with
                | some l => some (l, e6)
                | none => none)
              | none => none)
            | none => none) (fun e => evt cs e) (fun e => ev x e)
  let P : Nat → Hp → Prop := fun i H => ∃ (G2 : Hp) (e3 : Env') (acc : List V) (y1 y2 : List D), Same G1 G2 ∧ Rel C (upd F D0 (.lst acc)) (noG G0 D0) G2 H pn (L2.wipe σ vs) e3 ∧ RepL C.K G2 acc y1 ∧
    lcLoop lp (items.drop i) e3 = some (y2, e7) ∧ y1 ++ y2 = ys ∧ i ≤ items.length
  refine ⟨fun i m H => m = items.length - i ∧ P i H, ⟨_, rfl, G1, e0, [], [], ys, Same.refl G1, R0, .nil, hl0, rfl, Nat.zero_le _⟩, ?_⟩
  rintro i m H2 ⟨rfl, G2, e3, acc, y1, y2, s2, R2, ra, hl, hy, hi⟩
  by_cases hlt : i < items.length
  · refine .inr ⟨W1.go i G2 H2 hlt s2 R2.gh, fun H' => P (i + 1) H', fun H' p => ⟨items.length - (i + 1), by omega, rfl, p⟩, fun x0 H3 yl => ?_⟩
    have hget : items[i]? = some items[i] := List.getElem?_eq_getElem hlt
    obtain ⟨G3, gr, rx⟩ := W1.yld i _ G2 H2 H3 x0 hget s2 R2.gh R2.tabs yl
    have R3 := R2.grow gr
    rw [List.drop_eq_getElem_cons hlt] at hl
    obtain ⟨y3, e4, y4, t1, t2, rfl⟩ := lcLoop_cons hl
    have t1' : lc2Turn tg vs vs1 tg2 (fun e => evt cs1 e) (fun e => match evs as2 e with
            | some (rs, e5) => (match settles e5 rs with
              | some (ds, e6) => (match g2 ds with
                | some l => some (l, e6)
                | none => none)
              | none => none)
            | none => none) (fun e => evt cs e) (fun e => ev x e) items[i] e3 = some (y3, e4) := t1
    unfold lc2Turn at t1'
    split at t1'
    · rename_i e5 b1
      refine ⟨_, _, G3, pn, e3, _, e5, R3, rx, b1, fun σ5 R5 o5 => ?_⟩
      have hw := offS_wipe hsl o5
      refine ⟨hw, ?_⟩
      split at t1'
      · rename_i e6 h6
        refine ⟨_, _, G3, pn, e5, e6, true, R5, h6, fun G4 H4 R4 s4 => iteT ?_⟩
        split at t1'
        · rename_i items2 e8 h8
          dsimp only at h8
          split at h8
          · rename_i rs8 e9 q9
            split at h8
            · rename_i ds8 e10 q10
              split at h8
              · rename_i l8 q11
                cases h8
                split at t1'
                · rename_i hsoft
                  split at t1'
                  · rename_i ys8 e11 h11
                    cases t1'
                    refine ⟨_, _, G4, pn, e6, rs8, e9, ds8, e8, items2, R4, q9, q10, q11, fun J1 G5 H5 R5' s5 Wk => ?_⟩
                    have hp1 : ∀ i p, pn = some (i, p) → i ∉ vs1 := fun i p h z => hp i p h (hv1 i z)
                    have Rw := R5'.wipe hp1
                    have s25 : Same G2 G5 := (gr.gg.trans s4).trans s5
                    refine lc_turns hsl2 Wk fD tD hp1 (acc0 := acc) (ys0 := y1) (ys := y3) ?_ Rw (ra.mono s25) h11 fun G6 H6 acc6 s6 R6 ra6 => ?_
                    · have : (y1 ++ (y3 ++ y4)).length ≤ 16000000 := by rw [hy]; exact hz
                      rw [List.length_append, List.length_append] at this
                      rw [List.length_append]
                      omega
                    · have R7 := R6.wipe hp
                      rw [wipe_wipe hv1, hw] at R7
                      exact ⟨G6, wipeE e11 vs, acc6, y1 ++ y3, y4, s2.trans (s25.trans s6), R7, ra6, t2, by rw [List.append_assoc]; exact hy, by omega⟩
                  · cases t1'
                · cases t1'
              · cases h8
            · cases h8
          · cases h8
        · cases t1'
      · rename_i e6 h6
        cases t1'
        refine ⟨_, _, G3, pn, e5, e6, false, R5, h6, fun G4 H4 R4 s4 => iteF ?_⟩
        have s24 : Same G2 G4 := gr.gg.trans s4
        have R7 := R4.wipe hp
        rw [hw] at R7
        exact ⟨G4, wipeE e6 vs, acc, y1, y4, s2.trans s24, R7, ra.mono s24, t2, hy, by omega⟩
      · cases t1'
    · cases t1'
  · have hid : items.drop i = [] := List.drop_eq_nil_of_le (by omega)
    rw [hid] at hl
    unfold lcLoop at hl
    cases hl
    rw [List.append_nil] at hy
    subst hy
    exact .inl ⟨W1.stop i G2 H2 (by omega) s2 R2.gh, hend G2 H2 acc s2 R2 ra⟩
theorem ev_lc2 {g : List D → Option (List D)} {xs : List Ex} {vs : List Nat} {tg : Tg} {cs1 : List Ex} {g2 : List D → Option (List D)} {as2 : List Ex} {vs1 : List Nat} {tg2 : Tg} {cs : List Ex} {x : Ex} {r : Rv} (h : ev (.lc2 g xs vs tg cs1 g2 as2 vs1 tg2 cs x) e = some (r, e')) :
    ∃ rs e1 ds e2 items ys e7, evs xs e = some (rs, e1) ∧ settles e1 rs = some (ds, e2) ∧ g ds = some items ∧ softE e2 vs = true ∧ (∀ i ∈ vs1, i ∈ vs) ∧
      lcLoop (lc2Turn tg vs vs1 tg2 (fun e => evt cs1 e) (fun e => match evs as2 e with
            | some (rs, e5) => (match settles e5 rs with
              | some (ds, e6) => (match g2 ds with
                | some l => some (l, e6)
                | none => none)
              | none => none)
            | none => none) (fun e => evt cs e) (fun e => ev x e)) items (wipeE e2 vs) = some (ys, e7) ∧ ys.length ≤ 16000000 ∧ r = .pers (.lst ys) ∧ e' = backE e2 e7 vs := by
  unfold ev at h
  split at h
  · rename_i rs e1 q1
    split at h
    · rename_i ds e2 q2
      split at h
      · rename_i items q3
        split at h
        · rename_i hs
          obtain ⟨hs1, hs2⟩ := Bool.and_eq_true_iff.mp hs
          split at h
          · rename_i ys e7 q4
            split at h
            · rename_i hz
              cases h
              exact ⟨rs, e1, ds, e2, items, ys, e7, q1, q2, q3, hs1, fun i hi => List.contains_iff_mem.mp (List.all_eq_true.mp hs2 i hi), q4, hz, rfl, rfl⟩
            · cases h
          · cases h
        · cases h
      · cases h
    · cases h
  · cases h
theorem tLc_of {g : List D → Option (List D)} {xs : List Ex} {vs : List Nat} {tg : Tg} {cs : List Ex} {x : Ex} (hsl : ∀ i ∈ tg.slots, i ∈ vs) {σ : St} {H : Hp} {Q : VK} (q : tF C (.lc g xs vs tg cs x) σ H Q) : tLc (tI C g xs) (tG C tg) (tTs C cs) (tE C x) vs σ H Q := by
  obtain ⟨F, G0, G, pn, e, dd, e', R, he, k⟩ := q
  obtain ⟨rs, e1, ds, e2, items, ys, e7, q1, q2, q3, hs, q4, hz, q5, rfl⟩ := ev_lc he
  cases q5
  refine ⟨F, G0, G, pn, e, rs, e1, ds, e2, items, R, q1, q2, q3, fun J G1 H1 R1 s1 W1 => ?_⟩
  intro D0 hD
  have fD : F D0 = none := R1.fh.free hD
  have tD : D0 ∉ C.tt := fun z => tabG_some (R1.tb D0 z).1 hD
  have hp : ∀ i p, pn = some (i, p) → i ∉ vs := fun i p hi z => by
    obtain ⟨_, d', k2⟩ := R1.pi i p hi
    obtain ⟨b, h1, h2⟩ := soft_at hs z
    rw [k2] at h1
    cases h1
    cases h2
  have Rw := R1.wipe hp
  have Rn := Rw.grow (grow_own (o := .lst []) Rw.gh Rw.tabs hD)
  have R0 := Rn.fr1 (o := .lst []) upd_same (R1.gh.free hD) fD (fun i ⟨a1, b, a2, a3⟩ => by
    have q := Rw.sl i b a2
    rw [a1] at q
    cases b with
    | un => cases a3
    | im d => cases a3
    | ow d => obtain ⟨p, o, z, _, _, _, k4, _⟩ := q; cases z; rw [hD] at k4; cases k4
    | io d => obtain ⟨p, o, z, _, _, _, k4, _⟩ := q; cases z; rw [hD] at k4; cases k4) tD
  refine lc_turns hsl W1 fD tD hp (acc0 := []) (ys0 := []) (by simpa using hz) R0 .nil q4 fun G2 H2 acc s2 R2 ra => ?_
  rw [List.nil_append] at ra
  obtain ⟨u1, u2, u3, u4⟩ := R2.un1 (o' := .lst acc) fD tD
  have hsame : upd H2 D0 (.lst acc) = H2 := by
    funext b
    by_cases z : b = D0
    · rw [z, upd_same, u1]
    · rw [upd_ne z]
  rw [hsame] at u4
  have Rb := R1.back hs u4 s2
  refine k D0 (.lst acc) G2 H2 Rb (s1.trans s2) u2 fD tD (fun i ⟨a1, b, a2, a3⟩ => ?_) u1 (.lst ra)
  have ll : e2.length = e7.length := by rw [← R1.ln, ← u4.ln, wipe_length]
  by_cases hi : i ∈ vs
  · obtain ⟨b2, h1, h2⟩ := soft_at hs hi
    rw [backE_in ll hi h1] at a2
    cases a2
    rw [h2] at a3
    cases a3
  · rw [backE_off hi] at a2
    exact u3 i ⟨by rw [wipe_off hi]; exact a1, b, a2, a3⟩
theorem tLc2_of {g : List D → Option (List D)} {xs : List Ex} {vs : List Nat} {tg : Tg} {cs1 : List Ex} {g2 : List D → Option (List D)} {as2 : List Ex} {vs1 : List Nat} {tg2 : Tg} {cs : List Ex} {x : Ex} (hsl : ∀ i ∈ tg.slots, i ∈ vs) (hsl2 : ∀ i ∈ tg2.slots, i ∈ vs1) {σ : St} {H : Hp} {Q : VK} (q : tF C (.lc2 g xs vs tg cs1 g2 as2 vs1 tg2 cs x) σ H Q) :
    tLc2 (tI C g xs) (tG C tg) (tTs C cs1) (tI C g2 as2) (tG C tg2) (tTs C cs) (tE C x) vs vs1 σ H Q := by
  obtain ⟨F, G0, G, pn, e, dd, e', R, he, k⟩ := q
  obtain ⟨rs, e1, ds, e2, items, ys, e7, q1, q2, q3, hs, hv, q4, hz, q5, rfl⟩ := ev_lc2 he
  cases q5
  refine ⟨F, G0, G, pn, e, rs, e1, ds, e2, items, R, q1, q2, q3, fun J G1 H1 R1 s1 W1 => ?_⟩
  intro D0 hD
  have fD : F D0 = none := R1.fh.free hD
  have tD : D0 ∉ C.tt := fun z => tabG_some (R1.tb D0 z).1 hD
  have hp : ∀ i p, pn = some (i, p) → i ∉ vs := fun i p hi z => by
    obtain ⟨_, d', k2⟩ := R1.pi i p hi
    obtain ⟨b, h1, h2⟩ := soft_at hs z
    rw [k2] at h1
    cases h1
    cases h2
  have Rw := R1.wipe hp
  have Rn := Rw.grow (grow_own (o := .lst []) Rw.gh Rw.tabs hD)
  have R0 := Rn.fr1 (o := .lst []) upd_same (R1.gh.free hD) fD (fun i ⟨a1, b, a2, a3⟩ => by
    have q := Rw.sl i b a2
    rw [a1] at q
    cases b with
    | un => cases a3
    | im d => cases a3
    | ow d => obtain ⟨p, o, z, _, _, _, k4, _⟩ := q; cases z; rw [hD] at k4; cases k4
    | io d => obtain ⟨p, o, z, _, _, _, k4, _⟩ := q; cases z; rw [hD] at k4; cases k4) tD
  refine lc2_turns hv hsl hsl2 W1 fD tD hp hz R0 q4 fun G2 H2 acc s2 R2 ra => ?_
  obtain ⟨u1, u2, u3, u4⟩ := R2.un1 (o' := .lst acc) fD tD
  have hsame : upd H2 D0 (.lst acc) = H2 := by
    funext b
    by_cases z : b = D0
    · rw [z, upd_same, u1]
    · rw [upd_ne z]
  rw [hsame] at u4
  have Rb := R1.back hs u4 s2
  refine k D0 (.lst acc) G2 H2 Rb (s1.trans s2) u2 fD tD (fun i ⟨a1, b, a2, a3⟩ => ?_) u1 (.lst ra)
  have ll : e2.length = e7.length := by rw [← R1.ln, ← u4.ln, wipe_length]
  by_cases hi : i ∈ vs
  · obtain ⟨b2, h1, h2⟩ := soft_at hs hi
    rw [backE_in ll hi h1] at a2
    cases a2
    rw [h2] at a3
    cases a3
  · rw [backE_off hi] at a2
    exact u3 i ⟨by rw [wipe_off hi]; exact a1, b, a2, a3⟩
variable {elt tgx iter : Expr} {ifs : List Expr} {scope : Scope} {own : List (Str × Nat)} {pos : Pos} {g : List D → Option (List D)} {xs : List Ex} {tg : Tg} {cs : List Ex} {x : Ex}
theorem cf_lc (hc : X.calm = true) (hN : X.N.Nodup) (hi : PI X tgx iter (tI C g xs)) (ok : BlkOk X.N X.env.scope scope own)
    (hg : ∀ (s : Shared) (H : Hp) (Cc : Addr) (cl : List (Str × Addr)) (fp : List Addr), PG (X.blk s H scope (compEnvC scope cl Cc X.env) fp) tgx (tG C tg)) (ht : ∀ (s : Shared) (H : Hp) (Cc : Addr) (cl : List (Str × Addr)) (fp : List Addr), PTs (X.blk s H scope (compEnvC scope cl Cc X.env) fp) ifs (tTs C cs))
    (he : ∀ (s : Shared) (H : Hp) (Cc : Addr) (cl : List (Str × Addr)) (fp : List Addr), PE (X.blk s H scope (compEnvC scope cl Cc X.env) fp) elt (tE C x)) (hsl : (tg.slots.all fun i => (own.map (·.2)).contains i) = true) (hs : ∀ x, foldedSetIterable iter X.env x = pure x := by intro _; rfl) :
    PE X (.ListComp elt [⟨tgx, iter, ifs, 0⟩] scope pos) (tF C (.lc g xs (own.map (·.2)) tg cs x)) := (pe_lc hc hN hi ok hg ht he hs).imp fun σ H Q q => tLc_of (fun i hi => by
  have := List.all_eq_true.mp hsl i hi
  exact List.contains_iff_mem.mp this) q
theorem cf_lc2 {tgx2 iter2 : Expr} {ifs2 : List Expr} {g2 : List D → Option (List D)} {as2 : List Ex} {vs1 : List Nat} {tg2 : Tg} {cs2 : List Ex} (hc : X.calm = true) (hN : X.N.Nodup) (hi : PI X tgx iter (tI C g xs)) (ok : BlkOk X.N X.env.scope scope own) (hv : (vs1.all fun i => (own.map (·.2)).contains i) = true)
    (hg : ∀ (s : Shared) (H : Hp) (Cc : Addr) (cl : List (Str × Addr)) (fp : List Addr), PG (X.blk s H scope (compEnvC scope cl Cc X.env) fp) tgx (tG C tg)) (ht : ∀ (s : Shared) (H : Hp) (Cc : Addr) (cl : List (Str × Addr)) (fp : List Addr), PTs (X.blk s H scope (compEnvC scope cl Cc X.env) fp) ifs (tTs C cs))
    (hi1 : ∀ (s : Shared) (H : Hp) (Cc : Addr) (cl : List (Str × Addr)) (fp : List Addr), PI (X.blk s H scope (compEnvC scope cl Cc X.env) fp) tgx2 iter2 (tI C g2 as2))
    (hg1 : ∀ (s : Shared) (H : Hp) (Cc : Addr) (cl : List (Str × Addr)) (fp : List Addr), PG (X.blk s H scope (compEnvC scope cl Cc X.env) fp) tgx2 (tG C tg2)) (ht1 : ∀ (s : Shared) (H : Hp) (Cc : Addr) (cl : List (Str × Addr)) (fp : List Addr), PTs (X.blk s H scope (compEnvC scope cl Cc X.env) fp) ifs2 (tTs C cs2))
    (he : ∀ (s : Shared) (H : Hp) (Cc : Addr) (cl : List (Str × Addr)) (fp : List Addr), PE (X.blk s H scope (compEnvC scope cl Cc X.env) fp) elt (tE C x)) (hsl : (tg.slots.all fun i => (own.map (·.2)).contains i) = true) (hsl2 : (tg2.slots.all fun i => vs1.contains i) = true)
    (hs : ∀ x, foldedSetIterable iter X.env x = pure x := by intro _; rfl) (hs1 : ∀ env x, foldedSetIterable iter2 env x = pure x := by intro _ _; rfl) :
    PE X (.ListComp elt [⟨tgx, iter, ifs, 0⟩, ⟨tgx2, iter2, ifs2, 0⟩] scope pos) (tF C (.lc2 g xs (own.map (·.2)) tg cs g2 as2 vs1 tg2 cs2 x)) := (pe_lc2 hc hN hi ok (fun i hi => List.contains_iff_mem.mp (List.all_eq_true.mp hv i hi)) hg ht hi1 hg1 ht1 he hs hs1).imp fun σ H Q q =>
      tLc2_of (fun i hi => List.contains_iff_mem.mp (List.all_eq_true.mp hsl i hi)) (fun i hi => List.contains_iff_mem.mp (List.all_eq_true.mp hsl2 i hi)) q
theorem cf_ce {a : Expr} (h : PE X a (tF C x)) (hx : ∀ e r e', ev x e = some (r, e') → ∃ d, r = .pers d) : PE X a (tE C x) := h.imp fun σ H Q q => tF_tE q hx
theorem lc_pers : ∀ e r e', ev (.lc g xs vs tg cs x) e = some (r, e') → ∃ d, r = .pers d := fun e r e' h => by
  obtain ⟨_, _, _, _, _, ys, _, _, _, _, _, _, _, h2, _⟩ := ev_lc h
  exact ⟨_, h2⟩
theorem lc2_pers {g2 : List D → Option (List D)} {as2 : List Ex} {vs1 : List Nat} {tg2 : Tg} {cs2 : List Ex} : ∀ e r e', ev (.lc2 g xs vs tg cs g2 as2 vs1 tg2 cs2 x) e = some (r, e') → ∃ d, r = .pers d := fun e r e' h => by
  obtain ⟨_, _, _, _, _, ys, _, _, _, _, _, _, _, _, h2, _⟩ := ev_lc2 h
  exact ⟨_, h2⟩
theorem op_pers {f : List D → Option D} : ∀ e r e', ev (.op f xs) e = some (r, e') → ∃ d, r = .pers d := fun e r e' h => by
  obtain ⟨_, _, d, _, _, _, h2⟩ := ev_op h
  exact ⟨d, h2⟩
theorem mk_pers {f : List D → Option D} : ∀ e r e', ev (.mk f xs) e = some (r, e') → ∃ d, r = .pers d := fun e r e' h => by
  obtain ⟨_, _, _, d, _, _, _, h2⟩ := ev_mk h
  exact ⟨d, h2⟩
end
end Mi

/-! Statements, functions. -/
namespace Mi
open PySem PySem.Spec PyProof.Rows L2 GxR
def OutOk (C : Cfg) (F G0 G : Hp) (pn : Option (Nat × Addr)) (D : Ends) : Out → Prop
  | .nx e' => ∀ σ' G' H', Rel C F G0 G' H' pn σ' e' → Same G G' → D.nx σ' H'
  | .rt d e' => ∀ v σ' G' H', Rel C F G0 G' H' pn σ' e' → Same G G' → Rep C.K G' v d → D.rt v H'
  | .ro d e' => ∀ p o σ' G' H', Rel C F G0 G' H' pn σ' e' → Same G G' → G' p = none → F p = none → p ∉ C.tt → H' p = some o → RepO C.K G' o d → D.rt (.ref p) H'
  | .bk e' => ∀ σ' G' H', Rel C F G0 G' H' pn σ' e' → Same G G' → D.bk σ' H'
  | .ct e' => ∀ σ' G' H', Rel C F G0 G' H' pn σ' e' → Same G G' → D.ct σ' H'
def tS (C : Cfg) (s : S) : TS := fun D σ H => ∃ (F G0 G : Hp) (pn : Option (Nat × Addr)) (e : Env') (o : Out), Rel C F G0 G H pn σ e ∧ ex s e = some o ∧ OutOk C F G0 G pn D o
section
variable {X : Cx} {C : Cfg} {F G0 G G' H H' : Hp} {pn : Option (Nat × Addr)} {σ : St} {e e' : Env'} {v : V} {d : D} {st : Stmt} {rest : List Stmt} {a b c : Expr} {x y z : Ex} {s t : S} {pos : Pos}
theorem OutOk.mono {D : Ends} {o : Out} (s : Same G G') (h : OutOk C F G0 G pn D o) : OutOk C F G0 G' pn D o := by
  cases o with
  | nx e' => exact fun σ' G2 H' R q => h σ' G2 H' R (s.trans q)
  | rt d e' => exact fun v σ' G2 H' R q => h v σ' G2 H' R (s.trans q)
  | ro d e' => exact fun p o σ' G2 H' R q => h p o σ' G2 H' R (s.trans q)
  | bk e' => exact fun σ' G2 H' R q => h σ' G2 H' R (s.trans q)
  | ct e' => exact fun σ' G2 H' R q => h σ' G2 H' R (s.trans q)
theorem css_nil : PSs X [] (tS C .skip) := pss_nil.imp fun D σ H q => by
  obtain ⟨F, G0, G, pn, e, o, R, he, k⟩ := q
  cases he
  exact k σ G H R (Same.refl G)
theorem css_cons (h1 : PS X st (tS C s)) (h2 : PSs X rest (tS C t)) : PSs X (st :: rest) (tS C (.seq s t)) := (pss_cons h1 h2).imp fun D σ H q => by
  obtain ⟨F, G0, G, pn, e, o, R, he, k⟩ := q
  unfold ex at he
  split at he
  · rename_i e1 q1
    exact ⟨F, G0, G, pn, e, .nx e1, R, q1, fun σ1 G1 H1 R1 s1 => ⟨F, G0, G1, pn, e1, o, R1, he, k.mono s1⟩⟩
  · rename_i o1 hno q1
    cases he
    refine ⟨F, G0, G, pn, e, o, R, q1, ?_⟩
    cases o with
    | nx e1 => exact absurd rfl (hno e1)
    | rt d e1 => exact k
    | ro d e1 => exact k
    | bk e1 => exact k
    | ct e1 => exact k
  · cases he
theorem css_one (h1 : PS X st (tS C s)) : PSs X [st] (tS C s) := pss_one h1
theorem cs_pass : PS X (.Pass pos) (tS C .skip) := ps_pass.imp fun D σ H q => by
  obtain ⟨F, G0, G, pn, e, o, R, he, k⟩ := q
  cases he
  exact k σ G H R (Same.refl G)
theorem cs_brk : PS X (.Break pos) (tS C .brk) := ps_break.imp fun D σ H q => by
  obtain ⟨F, G0, G, pn, e, o, R, he, k⟩ := q
  cases he
  exact k σ G H R (Same.refl G)
theorem cs_cnt : PS X (.Continue pos) (tS C .cnt) := ps_continue.imp fun D σ H q => by
  obtain ⟨F, G0, G, pn, e, o, R, he, k⟩ := q
  cases he
  exact k σ G H R (Same.refl G)
theorem cs_never : PS X st (tS C .never) := (ps_never (X := X) (st := st)).imp fun D σ H q => by
  obtain ⟨F, G0, G, pn, e, o, R, he, k⟩ := q
  cases he
theorem cs_exp (ha : PE X a (tE C x)) (hs : swapsWith a none pos.line X.env = pure false := by rfl) : PS X (.Expr a pos) (tS C (.exp x)) := (ps_expr ha hs).imp fun D σ H q => by
  obtain ⟨F, G0, G, pn, e, o, R, he, k⟩ := q
  unfold ex at he
  split at he
  · rename_i r e1 q1
    cases he
    exact ⟨F, G0, G, pn, e, r, e1, R, q1, fun v G1 H1 R1 s1 _ => k σ G1 H1 R1 s1⟩
  · cases he
theorem cs_ret (ha : PE X a (tE C x)) : PS X (.Return (some a) pos) (tS C (.ret x)) := (ps_ret ha).imp fun D σ H q => by
  obtain ⟨F, G0, G, pn, e, o, R, he, k⟩ := q
  unfold ex at he
  split at he
  · rename_i r e1 q1
    split at he
    · rename_i d e2 q2
      cases he
      refine ⟨F, G0, G, pn, e, r, e1, R, q1, fun v G1 H1 R1 s1 rv => ?_⟩
      obtain ⟨G2, s2, R2, r2, _⟩ := R1.settle rv q2
      exact k v σ G2 H1 R2 (s1.trans s2) r2
    · cases he
  · cases he
theorem cs_retN : PS X (.Return none pos) (tS C .retN) := ps_retN.imp fun D σ H q => by
  obtain ⟨F, G0, G, pn, e, o, R, he, k⟩ := q
  cases he
  exact k .non σ G H R (Same.refl G) .non
theorem cs_if {l m : List Stmt} (hc : PT X c (tT C z)) (ha : PSs X l (tS C s)) (hb : PSs X m (tS C t)) : PS X (.If c l m pos) (tS C (.iff z s t)) := (ps_if hc ha hb).imp fun D σ H q => by
  obtain ⟨F, G0, G, pn, e, o, R, he, k⟩ := q
  unfold ex at he
  split at he
  · rename_i r e1 q1
    split at he
    · rename_i d q2
      split at he
      · rename_i q3
        exact ⟨F, G0, G, pn, e, r, e1, d, true, R, q1, q2, q3, fun G1 H1 R1 s1 => iteT ⟨F, G0, G1, pn, e1, o, R1, he, k.mono s1⟩⟩
      · rename_i q3
        exact ⟨F, G0, G, pn, e, r, e1, d, false, R, q1, q2, q3, fun G1 H1 R1 s1 => iteF ⟨F, G0, G1, pn, e1, o, R1, he, k.mono s1⟩⟩
      · cases he
    · cases he
  · cases he
/-! ### stores -/
theorem set_of {te : TE} {g : TG} {tg : Tg} (hte : ∀ σ H Q, tE C x σ H Q → te σ H Q) (hg : ∀ v σ H Q, tG C tg v σ H Q → g v σ H Q) {D : Ends} {σ : St} {H : Hp} (q : tS C (.set tg x) D σ H) : tAsg te g D σ H := by
  obtain ⟨F, G0, G, pn, e, o, R, he, k⟩ := q
  unfold ex at he
  split at he
  · rename_i r e1 q1
    split at he
    · rename_i d e2 q2
      split at he
      · rename_i e3 q3
        cases he
        refine hte _ _ _ ⟨F, G0, G, pn, e, r, e1, R, q1, fun v G1 H1 R1 s1 rv => hg _ _ _ _ ?_⟩
        obtain ⟨G2, s2, R2, r2, _⟩ := R1.settle rv q2
        exact ⟨F, G0, G2, pn, e2, d, e3, R2, r2, q3, fun σ3 R3 _ => k σ3 G2 H1 R3 (s1.trans s2)⟩
      · cases he
    · cases he
  · cases he
theorem cs_asg {tgx : Expr} {tg : Tg} (ha : PE X a (tE C x)) (hg : PG X tgx (tG C tg)) (hs : swapsWithSole [tgx] a pos.line X.env = pure false := by rfl) (hw : swappedStores [tgx] a X.env = pure none := by rfl)
    (h1 : (assignEach [tgx] X.env).map (·.2) = [assign tgx X.env] := by rfl) : PS X (.Assign [tgx] a pos) (tS C (.set tg x)) := (ps_asg ha hg hs hw h1).imp fun D σ H q => set_of (fun _ _ _ h => h) (fun _ _ _ _ h => h) q
theorem gName_of {i : Nat} (v : V) (σ : St) (H : Hp) (Q : St → Hp → Prop) (q : tG C (.nm i) v σ H Q) : gName i v σ H Q := by
  obtain ⟨F, G0, G, pn, e, d, e', R, r, hb, k⟩ := q
  obtain ⟨b0, h0, hn, rfl⟩ := bind_nm hb
  exact k _ (R.put h0 hn r) ⟨List.length_set, fun j hj => List.getElem?_set_ne (fun z => hj (by subst z; exact List.mem_cons_self))⟩
theorem cs_name {i : Nat} {nm : Str} {pos' : Pos} (h : ∀ {te : TE}, PE X a te → PS X (.Assign [.Name nm pos'] a pos) (tAsg te (gName i))) (ha : PE X a (tE C x)) : PS X (.Assign [.Name nm pos'] a pos) (tS C (.set (.nm i) x)) :=
  (h ha).imp fun D σ H q => set_of (fun _ _ _ h => h) gName_of q
/-- an own thing comes to a place -/
theorem Rel.putO (R : Rel C F G0 G H pn σ e) {i : Nat} {b0 : B} {p : Addr} {o : HO} (h0 : e[i]? = some b0) (hn : ∀ d, b0 ≠ .io d) (gp : G p = none) (fp : F p = none) (tp : p ∉ C.tt) (ho : ∀ j, ¬ Own σ e j p) (hp : H p = some o) (r : RepO C.K G o d) :
    Rel C F G0 G H pn (σ.set i (some (.ref p))) (e.set i (.ow d)) := by
  have hi : i < e.length := (List.getElem?_eq_some_iff.mp h0).1
  have his : i < σ.length := by rw [R.ln]; exact hi
  have back : ∀ {j : Nat} {p' : Addr}, Own (σ.set i (some (.ref p))) (e.set i (.ow d)) j p' → (j = i ∧ p' = p) ∨ (j ≠ i ∧ Own σ e j p') := fun {j p'} ⟨a1, b, a2, a3⟩ => by
    by_cases hj : i = j
    · subst hj
      rw [List.getElem?_set_self his] at a1
      cases a1
      exact .inl ⟨rfl, rfl⟩
    · rw [List.getElem?_set_ne hj] at a1 a2
      exact .inr ⟨fun z => hj z.symm, a1, b, a2, a3⟩
  refine ⟨R.fh, R.gh, R.gf, R.tb, fun j b hb => ?_, fun j k p' h1 h2 => ?_, fun j p' hj => ?_, by rw [List.length_set, List.length_set]; exact R.ln⟩
  · by_cases hj : i = j
    · subst hj
      rw [List.getElem?_set_self hi] at hb
      cases hb
      exact ⟨p, o, List.getElem?_set_self his, gp, fp, tp, hp, r⟩
    · rw [List.getElem?_set_ne hj] at hb
      rw [List.getElem?_set_ne hj]
      exact R.sl j b hb
  · rcases back h1 with ⟨rfl, rfl⟩ | ⟨hj, o1⟩
    · rcases back h2 with ⟨rfl, _⟩ | ⟨hk, o2⟩
      · rfl
      · exact absurd o2 (ho k)
    · rcases back h2 with ⟨rfl, rfl⟩ | ⟨hk, o2⟩
      · exact absurd o1 (ho j)
      · exact R.ap j k p' o1 o2
  · obtain ⟨k1, d', k2⟩ := R.pi j p' hj
    have hne : i ≠ j := fun z => by
      subst z
      rw [h0] at k2
      exact hn d' (Option.some.inj k2)
    exact ⟨by rw [List.getElem?_set_ne hne]; exact k1, d', by rw [List.getElem?_set_ne hne]; exact k2⟩
theorem setO_of {te : TE} {i : Nat} (hte : ∀ σ H Q, tF C x σ H Q → te σ H Q) {D : Ends} {σ : St} {H : Hp} (q : tS C (.setO i x) D σ H) : tAsg te (gName i) D σ H := by
  obtain ⟨F, G0, G, pn, e, o, R, he, k⟩ := q
  unfold ex at he
  split at he
  · rename_i d e1 q1
    have fin : ∀ {b0 : B}, e1[i]? = some b0 → (∀ d, b0 ≠ .io d) → o = .nx (e1.set i (.ow d)) → tAsg te (gName i) D σ H := fun {b0} h0 hn ho => by
      subst ho
      exact hte _ _ _ ⟨F, G0, G, pn, e, d, e1, R, q1, fun p o G1 H1 R1 s1 g1 f1 t1 o1 h1 r1 => k _ G1 H1 (R1.putO h0 hn g1 f1 t1 o1 h1 r1) s1⟩
    split at he
    · cases he
    · rename_i b0 hnio h0
      cases he
      exact fin h0 (fun d z => hnio d z) rfl
    · cases he
  · cases he
theorem cs_nameO {i : Nat} {nm : Str} {pos' : Pos} (h : ∀ {te : TE}, PE X a te → PS X (.Assign [.Name nm pos'] a pos) (tAsg te (gName i))) (ha : PE X a (tF C x)) : PS X (.Assign [.Name nm pos'] a pos) (tS C (.setO i x)) :=
  (h ha).imp fun D σ H q => setO_of (fun _ _ _ h => h) q
/-- a, b = e1, e2 -/
theorem cs_par {i j : Nat} {nx ny : Str} {px py pt : Pos} {kt k2 : Nat} {pt2 : Pos} (hc : X.calm = true) (hN : X.N.Nodup) (hi : X.N[i]? = some nx) (hj : X.N[j]? = some ny) (hij : i ≠ j)
    (hx : X.env.scope.names.lookup nx = some .local) (hy : X.env.scope.names.lookup ny = some .local) (ha : PA X [a, b] (tA C [x, y]))
    (hw : swappedStores [.Tuple [.Name nx px, .Name ny py] kt pt] (.Tuple [a, b] k2 pt2) X.env = pure (some [nx, ny]))
    (hs : swapsWithSole [.Tuple [.Name nx px, .Name ny py] kt pt] (.Tuple [a, b] k2 pt2) pos.line X.env = pure false := by rfl) :
    PS X (.Assign [.Tuple [.Name nx px, .Name ny py] kt pt] (.Tuple [a, b] k2 pt2) pos) (tS C (.par i j x y)) := (ps_par hc hN hi hj hij hx hy ha hw hs).imp fun D σ H q => by
  obtain ⟨F, G0, G, pn, e, o, R, he, k⟩ := q
  unfold ex at he
  split at he
  · rename_i rs e1 q1
    split at he
    · rename_i d1 d2 e2 q2
      split at he
      · rename_i e3 q3
        cases he
        refine ⟨F, G0, G, pn, e, rs, e1, R, q1, fun vs G1 H1 R1 s1 r1 => ?_⟩
        obtain ⟨G2, s2, R2, r2, _⟩ := Rel.settles R1 r1 q2
        cases r2 with
        | cons ra rb =>
          cases rb with
          | cons rb rc =>
            cases rc
            refine ⟨_, _, rfl, ?_⟩
            unfold Tg.binds at q3
            split at q3
            · rename_i e4 q4
              unfold Tg.binds at q3
              split at q3
              · rename_i e5 q5
                unfold Tg.binds at q3
                cases q3
                obtain ⟨b0, h0, hn, rfl⟩ := bind_nm q4
                obtain ⟨b1, h1, hn1, rfl⟩ := bind_nm q5
                exact k _ G2 H1 ((R2.put h0 hn ra).put h1 hn1 rb) (s1.trans s2)
              · cases q3
            · cases q3
      · cases he
    · cases he
  · cases he
/-! ### a list grows -/
theorem lim16s {n : Nat} (h : n < 16000000) : n < sizeLine := by rw [sizeLine_eq]; omega
theorem growO_upd {p : Addr} {o : HO} (gh : Same G H) (t : ∀ P ∈ C.tt, TabG H P) (gp : G p = none) (tp : p ∉ C.tt) : GrowO C p G H G (upd H p o) :=
  ⟨Same.refl G, fun b u h => by rw [upd_ne (ne_of_none h gp)]; exact gh b u h, fun q hq _ _ => upd_ne hq, fun _ _ _ => rfl, fun P hP => by
    obtain ⟨ps, h1, h2⟩ := t P hP
    exact ⟨ps, by rw [upd_ne (fun z => tp (by rw [← z]; exact hP))]; exact h1, h2⟩⟩
theorem app_of {i : Nat} (hK : C.K = X.K) {D : Ends} {σ : St} {H : Hp} (q : tS C (.app i x) D σ H) : tDrop (tBM X.K "list" rAppend (tVar i) (tCons (tE C x) tNil)) D σ H := by
  obtain ⟨F, G0, G, pn, e, o, R, he, k⟩ := q
  unfold ex at he
  split at he
  · rename_i h0
    split at he
    · rename_i r e1 q1
      split at he
      · rename_i d e2 q2
        obtain ⟨p, xs, hv, hx⟩ : ∃ p xs, σ[i]? = some (some (.ref p)) ∧ H p = some (.lst xs) := by
          unfold lstAt at h0
          split at h0
          · rename_i l hb
            obtain ⟨p, o, z, z1, _, z3, z4, z5⟩ := R.sl i _ hb
            cases z5 with
            | lst r => exact ⟨p, _, z, z4⟩
          · rename_i l hb
            obtain ⟨p, o, z, z1, _, z3, z4, z5⟩ := R.sl i _ hb
            cases z5 with
            | lst r => exact ⟨p, _, z, z4⟩
          · cases h0
        have fin : ∀ {b b' : B} {l : List Mi.D}, e2[i]? = some b → l.length < 16000000 → ((b = .ow (.lst l) ∧ b' = .ow (.lst (l ++ [d]))) ∨ (b = .io (.lst l) ∧ b' = .io (.lst (l ++ [d])))) → o = .nx (e2.set i b') → tDrop (tBM X.K "list" rAppend (tVar i) (tCons (tE C x) tNil)) D σ H := fun {b b' l} hb hl hc ho => by
          subst ho
          refine ⟨.ref p, hv, .inl ⟨rfl, xs, SqL.of hx⟩, F, G0, G, pn, e, r, e1, R, q1, fun v G1 H1 R1 s1 rv => ?_⟩
          obtain ⟨G2, s2, R2, r2, _⟩ := R1.settle rv q2
          obtain ⟨ys, gp, tp, hy, ry⟩ : ∃ ys, G2 p = none ∧ p ∉ C.tt ∧ H1 p = some (.lst ys) ∧ RepL C.K G2 ys l := by
            have q := R2.sl i b hb
            rw [hv] at q
            rcases hc with ⟨rfl, _⟩ | ⟨rfl, _⟩
            · obtain ⟨p, o, z, z1, _, z3, z4, z5⟩ := q
              cases z
              cases z5 with
              | lst r => exact ⟨_, z1, z3, z4, r⟩
            · obtain ⟨p, o, z, z1, _, z3, z4, z5⟩ := q
              cases z
              cases z5 with
              | lst r => exact ⟨_, z1, z3, z4, r⟩
          refine ⟨p, ys, v, rfl, rfl, hy, by rw [ry.length]; exact lim16s hl, ?_⟩
          refine k σ G2 _ (R2.own (b := b) (b' := b') hv hb (by
            rcases hc with ⟨rfl, rfl⟩ | ⟨rfl, rfl⟩
            · exact ⟨_, _, .inl ⟨rfl, rfl⟩⟩
            · exact ⟨_, _, .inr ⟨rfl, rfl⟩⟩) (growO_upd R2.gh R2.tabs gp tp) upd_same (fun d' hd => by
            rcases hc with ⟨rfl, rfl⟩ | ⟨rfl, rfl⟩
            · cases hd; exact .lst (ry.append (.cons r2 .nil))
            · cases hd; exact .lst (ry.append (.cons r2 .nil)))) (s1.trans s2)
        split at he
        · rename_i l hb
          split at he
          · rename_i hl
            cases he
            exact fin hb hl (.inl ⟨rfl, rfl⟩) rfl
          · cases he
        · rename_i l hb
          split at he
          · rename_i hl
            cases he
            exact fin hb hl (.inr ⟨rfl, rfl⟩) rfl
          · cases he
        · cases he
      · cases he
    · cases he
  · cases he
theorem cs_app {i : Nat} (h : ∀ {te : TE}, PE X a te → PS X st (tDrop (tBM X.K "list" rAppend (tVar i) (tCons te tNil)))) (hK : C.K = X.K) (ha : PE X a (tE C x)) : PS X st (tS C (.app i x)) := (h ha).imp fun D σ H q => app_of hK q
/-! ### a place of a thing changes -/
/-- what a store does to the thing at p -/
def OkS (C : Cfg) (r : V → V → V → Hp → (Hp → Prop) → Prop) (f : D → D → D → Option D) : Prop := ∀ (p : Addr) (y v : V) (o : HO) (d0 kd d d1 : D) (G H : Hp) (Q : Hp → Prop), Same G H → H p = some o → RepO C.K G o d0 → Rep C.K G y kd → Rep C.K G v d → f d0 kd d = some d1 →
  (∀ o', RepO C.K G o' d1 → Q (upd H p o')) → r (.ref p) y v H Q
theorem sub_of {i : Nat} {f : D → D → D → Option D} {r : V → V → V → Hp → (Hp → Prop) → Prop} (ok : OkS C r f) {D : Ends} {σ : St} {H : Hp} (q : tS C (.sub f i y x) D σ H) :
    tE C x σ H fun v H1 => tVar i σ H1 fun u H2 => tE C y σ H2 fun w H3 => r u w v H3 fun H4 => D.nx σ H4 := by
  obtain ⟨F, G0, G, pn, e, o, R, he, k⟩ := q
  unfold ex at he
  split at he
  · rename_i h0
    split at he
    · rename_i rs e1 q1
      split at he
      · rename_i d kd e2 q2
        obtain ⟨p, hv⟩ : ∃ p, σ[i]? = some (some (.ref p)) := by
          unfold ownAt at h0
          split at h0
          · rename_i b hb
            have sl := R.sl i b hb
            cases b with
            | un => cases h0
            | im d => cases h0
            | ow d => obtain ⟨p, o, z, _⟩ := sl; exact ⟨p, z⟩
            | io d => obtain ⟨p, o, z, _⟩ := sl; exact ⟨p, z⟩
          · cases h0
        have fin : ∀ {b b' : B} {d0 d1 : Mi.D}, e2[i]? = some b → f d0 kd d = some d1 → ((b = .ow d0 ∧ b' = .ow d1) ∨ (b = .io d0 ∧ b' = .io d1)) → o = .nx (e2.set i b') →
            tE C x σ H fun v H1 => tVar i σ H1 fun u H2 => tE C y σ H2 fun w H3 => r u w v H3 fun H4 => D.nx σ H4 := fun {b b' d0 d1} hb hf hc ho => by
          subst ho
          unfold evs at q1
          split at q1
          · rename_i r1 e3 q3
            split at q1
            · rename_i rs2 e4 q4
              cases q1
              unfold evs at q4
              split at q4
              · rename_i r2 e5 q5
                unfold evs at q4
                cases q4
                refine ⟨F, G0, G, pn, e, r1, e3, R, q3, fun v G1 H1 R1 s1 rv => ⟨.ref p, hv, F, G0, G1, pn, e3, r2, _, R1, q5, fun w G2 H2 R2 s2 rw' => ?_⟩⟩
                obtain ⟨G3, s3, R3, r3, _⟩ := Rel.settles R2 (.cons ((rv.mono s2).env (ev_kept y _ _ _ q5).1) (.cons rw' .nil)) q2
                cases r3 with
                | cons ra rb =>
                  cases rb with
                  | cons rb rc =>
                    obtain ⟨o0, gp, tp, h1, r0⟩ : ∃ o0, G3 p = none ∧ p ∉ C.tt ∧ H2 p = some o0 ∧ RepO C.K G3 o0 d0 := by
                      have sl := R3.sl i b hb
                      rw [hv] at sl
                      rcases hc with ⟨rfl, _⟩ | ⟨rfl, _⟩
                      · obtain ⟨p', o, z, z1, _, z2⟩ := sl
                        cases z
                        exact ⟨o, z1, z2⟩
                      · obtain ⟨p', o, z, z1, _, z2⟩ := sl
                        cases z
                        exact ⟨o, z1, z2⟩
                    refine ok p w v o0 d0 kd d d1 G3 H2 _ R3.gh h1 r0 rb ra hf fun o' r' => ?_
                    refine k σ G3 _ (R3.own (b := b) (b' := b') hv hb (by
                      rcases hc with ⟨rfl, rfl⟩ | ⟨rfl, rfl⟩
                      · exact ⟨_, _, .inl ⟨rfl, rfl⟩⟩
                      · exact ⟨_, _, .inr ⟨rfl, rfl⟩⟩) (growO_upd R3.gh R3.tabs gp tp) upd_same (fun d' hd => by
                      rcases hc with ⟨rfl, rfl⟩ | ⟨rfl, rfl⟩
                      · cases hd; exact r'
                      · cases hd; exact r')) ((s1.trans s2).trans s3)
              · cases q4
            · cases q1
          · cases q1
        split at he
        · rename_i o0 hb
          split at he
          · rename_i o1 hf
            cases he
            exact fin hb hf (.inl ⟨rfl, rfl⟩) rfl
          · cases he
        · rename_i o0 hb
          split at he
          · rename_i o1 hf
            cases he
            exact fin hb hf (.inr ⟨rfl, rfl⟩) rfl
          · cases he
        · cases he
      · cases he
    · cases he
  · cases he
def setL : D → D → D → Option D := fun o k d => match o, k with
  | .lst l, .int i => (match ixN l.length i with
    | some j => some (.lst (l.set j d))
    | none => none)
  | _, _ => none
theorem setL_ok : OkS C rSetL setL := fun p y v o d0 kd d d1 G H Q s h r0 rk rd hf hQ => by
  unfold setL at hf
  split at hf
  · rename_i l i
    split at hf
    · rename_i j hj
      cases hf
      cases r0 with
      | lst r =>
        cases rk
        exact ⟨p, _, i, j, rfl, rfl, h, by rw [r.length]; exact hj, hQ _ (.lst (r.set rd j))⟩
    · cases hf
  · cases hf
theorem cs_subL {i : Nat} {b0 : Expr} (h : ∀ {te ti : TE}, PE X a te → PE X b0 ti → PS X st (tAsg te (gSub (tVar i) ti rSetL))) (ha : PE X a (tE C x)) (hb : PE X b0 (tE C y)) : PS X st (tS C (.sub setL i y x)) :=
  (h ha hb).imp fun D σ H q => sub_of setL_ok q
/-! ### loops -/
theorem for_of {g : List D → Option (List D)} {xs : List Ex} {tg : Tg} {tb : TS} (hb : ∀ D σ H, tS C s D σ H → tb D σ H) {D : Ends} {σ : St} {H : Hp} (q : tS C (.forr g xs tg s) D σ H) : tFor (tI C g xs) (tG C tg) tb D σ H := by
  obtain ⟨F, G0, G, pn, e, o, R, he, k⟩ := q
  unfold ex at he
  split at he
  · rename_i rs e1 q1
    split at he
    · rename_i ds e2 q2
      split at he
      · rename_i items q3
        refine ⟨F, G0, G, pn, e, rs, e1, ds, e2, items, R, q1, q2, q3, fun J G1 H1 R1 s1 W1 => ?_⟩
        let fb : Mi.D → Env' → Option Out := fun d e => match tg.bind d e with
          | some e3 => ex s e3
          | none => none
        have he' : forLoop fb items e2 = some o := he
        refine ⟨fun i m σ H => m = items.length - i ∧ i ≤ items.length ∧ ∃ (G2 : Hp) (e3 : Env'), Same G1 G2 ∧ Rel C F G0 G2 H pn σ e3 ∧ forLoop fb (items.drop i) e3 = some o, ⟨_, rfl, Nat.zero_le _, G1, e2, Same.refl G1, R1, he'⟩, ?_⟩
        rintro i m σ2 H2 ⟨rfl, hi, G2, e3, s2, R2, hl⟩
        by_cases hlt : i < items.length
        · refine .inr ⟨W1.go i G2 H2 hlt s2 R2.gh, _, fun σ' H' h => ⟨items.length - (i + 1), by omega, h⟩, fun x0 H3 yl => ?_⟩
          have hget : items[i]? = some items[i] := List.getElem?_eq_getElem hlt
          obtain ⟨G3, gr, rx⟩ := W1.yld i _ G2 H2 H3 x0 hget s2 R2.gh R2.tabs yl
          have R3 := R2.grow gr
          rw [List.drop_eq_getElem_cons hlt] at hl
          unfold forLoop at hl
          have s23 := s2.trans gr.gg
          have again : ∀ {e5 : Env'}, forLoop fb (items.drop (i + 1)) e5 = some o → ∀ σ' G' H', Rel C F G0 G' H' pn σ' e5 → Same G3 G' → items.length - (i + 1) = items.length - (i + 1) ∧ i + 1 ≤ items.length ∧ ∃ (G2 : Hp) (e3 : Env'), Same G1 G2 ∧ Rel C F G0 G2 H' pn σ' e3 ∧ forLoop fb (items.drop (i + 1)) e3 = some o :=
            fun {e5} hl5 σ' G' H' R' s' => ⟨rfl, by omega, G', e5, s23.trans s', R', hl5⟩
          have go : ∀ {o4 : Out}, fb items[i] e3 = some o4 → OutOk C F G0 G3 pn { D with nx := fun σ H => items.length - (i + 1) = items.length - (i + 1) ∧ i + 1 ≤ items.length ∧ ∃ (G2 : Hp) (e3 : Env'), Same G1 G2 ∧ Rel C F G0 G2 H pn σ e3 ∧ forLoop fb (items.drop (i + 1)) e3 = some o, ct := fun σ H => items.length - (i + 1) = items.length - (i + 1) ∧ i + 1 ≤ items.length ∧ ∃ (G2 : Hp) (e3 : Env'), Same G1 G2 ∧ Rel C F G0 G2 H pn σ e3 ∧ forLoop fb (items.drop (i + 1)) e3 = some o, bk := D.nx } o4 →
              tG C tg x0 σ2 H3 fun σ2 H2 => tb { D with nx := fun σ H => items.length - (i + 1) = items.length - (i + 1) ∧ i + 1 ≤ items.length ∧ ∃ (G2 : Hp) (e3 : Env'), Same G1 G2 ∧ Rel C F G0 G2 H pn σ e3 ∧ forLoop fb (items.drop (i + 1)) e3 = some o, ct := fun σ H => items.length - (i + 1) = items.length - (i + 1) ∧ i + 1 ≤ items.length ∧ ∃ (G2 : Hp) (e3 : Env'), Same G1 G2 ∧ Rel C F G0 G2 H pn σ e3 ∧ forLoop fb (items.drop (i + 1)) e3 = some o, bk := D.nx } σ2 H2 := fun {o4} h4 k4 => by
            have h4' : (match tg.bind items[i] e3 with
              | some e3 => ex s e3
              | none => none) = some o4 := h4
            split at h4'
            · rename_i e5 b5
              exact ⟨F, G0, G3, pn, e3, _, e5, R3, rx, b5, fun σ5 R5 _ => hb _ _ _ ⟨F, G0, G3, pn, e5, o4, R5, h4', k4⟩⟩
            · cases h4'
          split at hl
          · rename_i e4 h4
            exact go h4 (again hl)
          · rename_i e4 h4
            exact go h4 (again hl)
          · rename_i e4 h4
            cases hl
            exact go h4 fun σ' G' H' R' s' => k σ' G' H' R' ((s1.trans s23).trans s')
          · rename_i v4 e4 h4
            cases hl
            exact go h4 fun v σ' G' H' R' s' rv => k v σ' G' H' R' ((s1.trans s23).trans s') rv
          · rename_i v4 e4 h4
            cases hl
            exact go h4 fun p o σ' G' H' R' s' => k p o σ' G' H' R' ((s1.trans s23).trans s')
          · cases hl
        · have hid : items.drop i = [] := List.drop_eq_nil_of_le (by omega)
          rw [hid] at hl
          unfold forLoop at hl
          cases hl
          exact .inl ⟨W1.stop i G2 H2 (by omega) s2 R2.gh, k σ2 G2 H2 R2 (s1.trans s2)⟩
      · cases he
    · cases he
  · cases he
theorem cs_for {tgx iter : Expr} {body : List Stmt} {g : List D → Option (List D)} {xs : List Ex} {tg : Tg} (hp : PassesOwn (model X.prog X.w) X.A X.env X.xe) (hc : X.calm = true) (hi : PI X tgx iter (tI C g xs)) (hg : PG X tgx (tG C tg)) (hb : PSs X body (tS C s))
    (hs : ∀ x, foldedSetIterable iter X.env x = pure x := by intro _; rfl) : PS X (.For tgx iter body [] pos) (tS C (.forr g xs tg s)) := (ps_for hp hc hi hg hb hs).imp fun D σ H q => for_of (fun _ _ _ h => h) q
theorem while_of {n : Nat} {D : Ends} {σ : St} {H : Hp} (q : tS C (.whil n z s) D σ H) : tWhile (tT C z) (tS C s) D σ H := by
  obtain ⟨F, G0, G, pn, e, o, R, he, k⟩ := q
  unfold ex at he
  let fc : Env' → Option (Bool × Env') := fun e => match ev z e with
      | some (r, e1) => (match r.get e1 with
        | some d => (match truth d with
          | some t => some (t, e1)
          | none => none)
        | none => none)
      | none => none
  have he' : whileLoop fc (fun e => ex s e) n e = some o := he
  refine ⟨fun m σ H => ∃ (G2 : Hp) (e3 : Env'), Same G G2 ∧ Rel C F G0 G2 H pn σ e3 ∧ whileLoop fc (fun e => ex s e) m e3 = some o, ⟨n, G, e, Same.refl G, R, he'⟩, ?_⟩
  rintro m σ2 H2 ⟨G2, e3, s2, R2, hl⟩
  cases m with
  | zero => unfold whileLoop at hl; cases hl
  | succ m =>
    unfold whileLoop at hl
    have test : ∀ {b : Bool} {e4 : Env'}, fc e3 = some (b, e4) → ∀ Q : Bool → Hp → Prop, (∀ G' H', Rel C F G0 G' H' pn σ2 e4 → Same G2 G' → Q b H') → tT C z σ2 H2 Q := fun {b e4} h Q hQ => by
      have h' : (match ev z e3 with
        | some (r, e1) => (match r.get e1 with
          | some d => (match truth d with
            | some t => some (t, e1)
            | none => none)
          | none => none)
        | none => none) = some (b, e4) := h
      split at h'
      · rename_i r e1 q1
        split at h'
        · rename_i d q2
          split at h'
          · rename_i t q3
            cases h'
            exact ⟨F, G0, G2, pn, e3, r, _, d, _, R2, q1, q2, q3, hQ⟩
          · cases h'
        · cases h'
      · cases h'
    split at hl
    · rename_i e4 h4
      cases hl
      exact test h4 _ fun G4 H4 R4 s4 => iteF (k σ2 G4 H4 R4 (s2.trans s4))
    · rename_i e4 h4
      refine test h4 _ fun G4 H4 R4 s4 => iteT ⟨fun σ' H' => ∃ (G2 : Hp) (e3 : Env'), Same G G2 ∧ Rel C F G0 G2 H' pn σ' e3 ∧ whileLoop fc (fun e => ex s e) m e3 = some o, fun σ' H' h => ⟨m, Nat.lt_succ_self m, h⟩, ?_⟩
      have s24 := s2.trans s4
      split at hl
      · rename_i e5 h5
        exact ⟨F, G0, G4, pn, e4, _, R4, h5, fun σ' G' H' R' s' => ⟨G', e5, s24.trans s', R', hl⟩⟩
      · rename_i e5 h5
        exact ⟨F, G0, G4, pn, e4, _, R4, h5, fun σ' G' H' R' s' => ⟨G', e5, s24.trans s', R', hl⟩⟩
      · rename_i e5 h5
        cases hl
        exact ⟨F, G0, G4, pn, e4, _, R4, h5, fun σ' G' H' R' s' => k σ' G' H' R' (s24.trans s')⟩
      · rename_i v5 e5 h5
        cases hl
        exact ⟨F, G0, G4, pn, e4, _, R4, h5, fun v σ' G' H' R' s' rv => k v σ' G' H' R' (s24.trans s') rv⟩
      · rename_i v5 e5 h5
        cases hl
        exact ⟨F, G0, G4, pn, e4, _, R4, h5, fun p o σ' G' H' R' s' => k p o σ' G' H' R' (s24.trans s')⟩
      · cases hl
    · cases hl
theorem cs_while {body : List Stmt} {n : Nat} (hp : PassesOwn (model X.prog X.w) X.A X.env X.xe) (hc : PT X c (tT C z)) (hb : PSs X body (tS C s)) : PS X (.While c body [] pos) (tS C (.whil n z s)) := (ps_while hp hc hb).imp fun D σ H q => while_of q
end
/-! ### functions -/
def initI (N : Nat) (ds : List D) : Env' := ds.map B.im ++ List.replicate (N - ds.length) .un
def runI (n N : Nat) (s : S) : List D → Option D := fun ds => if ds.length = n then (match ex s (initI N ds) with
  | some (.rt d _) => some d
  | some (.nx _) => some .non
  | _ => none) else none
def initO (N : Nat) (d0 : D) (ds : List D) : Env' := .io d0 :: (ds.map B.im ++ List.replicate (N - (ds.length + 1)) .un)
def outO (e : Env') : Option D := match e with
  | .io d :: _ => some d
  | _ => none
def runO (n N : Nat) (s : S) : List D → Option (D × D) := fun ds => match ds with
  | d0 :: ds => if ds.length + 1 = n then (match ex s (initO N d0 ds) with
    | some (.rt d e) => (outO e).map fun d1 => (d, d1)
    | some (.nx e) => (outO e).map fun d1 => (.non, d1)
    | _ => none) else none
  | [] => none
section
variable {P : Program} {w : World} {K : Frag} {mg : Str → Option Value} {base : Heap} {C : Cfg} {nm qual : Str} {params : Arguments} {body : List Stmt} {scope : Scope} {f : Addr} {fd : FuncData} {N ps : List Str} {k : Nat} {s : S}
/-- a def's code as its text says -/
theorem fnI_of (F : FunD K nm qual params body scope [] [] f fd) (S : FnScope N ps scope) (hK : C.K = K) (hb : ∀ (cdv : Value) (A : Around) (outer : List Env) (s0 : Shared) (H : Hp) (E : XK), (∀ oc od osl fd', K.lookup f = some ⟨oc, od, .func fd', osl⟩ → fd'.code = cdv) → Room k (A.deeper (envOfC qual scope s0.heap.objs.size f cdv)) →
      PSs (cxOf CX0 P w K mg base N qual scope f cdv A outer s0 H E).nox body (tS C s)) : FnOk P w K mg base CX0 (k + 1) f fd ps (spI C ps.length (runI ps.length N.length s)) := by
  obtain ⟨oc, od, dV, kV, doc, pm, an, cdv, ct, osl, rfl, lk, hcd, _, _⟩ := F.ex
  refine fn_of lk hcd S (fun vs H Q E h => ?_) fun A outer s0 H vs Q E hr hsp => ?_
  · obtain ⟨_, _, _, h, _⟩ := h
    exact h
  · refine ⟨_, (hb cdv A outer s0 H E (fun oc2 od2 osl2 fd2 h => by rw [lk] at h; cases h; rfl) hr).nox, ?_⟩
    obtain ⟨G, ds, d, hl, gh, tb, rl, hφ, hQ⟩ := hsp
    unfold runI at hφ
    split at hφ
    · rename_i hn
      have R : Rel C (fun p => if p ∈ C.tt then none else H p) G G H none (L2.start N vs) (initI N.length ds) := by
        have hle : ∀ i, i < ds.length → (initI N.length ds)[i]? = (ds[i]?).map B.im := fun i hi => by
          unfold initI
          rw [List.getElem?_append_left (by rw [List.length_map]; exact hi), List.getElem?_map]
        have hge : ∀ i b, ds.length ≤ i → (initI N.length ds)[i]? = some b → b = .un := fun i b hi h => by
          unfold initI at h
          rw [List.getElem?_append_right (by rw [List.length_map]; exact hi)] at h
          exact (List.mem_replicate.mp (List.mem_of_getElem? h)).2
        have ow : ∀ (i : Nat) (b : B), (initI N.length ds)[i]? = some b → b.isOw = true → False := fun i b h1 h2 => by
          by_cases hi : i < ds.length
          · rw [hle i hi] at h1
            cases q : ds[i]? with
            | none => rw [q] at h1; cases h1
            | some d => rw [q] at h1; cases h1; cases h2
          · rw [hge i b (by omega) h1] at h2; cases h2
        refine ⟨fun b o h => ?_, gh, fun _ _ _ => rfl, fun P hP => ⟨(tb P hP).1, (tb P hP).2, if_pos hP⟩, fun i b h => ?_, fun i j p ⟨_, b, h1, h2⟩ _ => (ow i b h1 h2).elim, fun i p h => (nomatch h), ?_⟩
        · have h' : (if b ∈ C.tt then none else H b) = some o := h
          split at h'
          · cases h'
          · exact h'
        · by_cases hi : i < ds.length
          · rw [hle i hi] at h
            cases q : ds[i]? with
            | none => rw [q] at h; cases h
            | some d =>
              rw [q] at h
              cases h
              obtain ⟨v, h1, h2⟩ := rl.getD q
              refine ⟨v, ?_, h2⟩
              unfold L2.start
              rw [List.getElem?_append_left (by rw [List.length_map, rl.length]; exact hi), List.getElem?_map, h1]
              rfl
          · rw [hge i b (by omega) h]
            trivial
        · unfold L2.start initI
          rw [List.length_append, List.length_append, List.length_map, List.length_map, List.length_replicate, List.length_replicate, rl.length]
      have fin : ∀ {v : V} {σ' : St} {G' H' : Hp} {e' : Env'} {d : D}, Rel C (fun p => if p ∈ C.tt then none else H p) G G' H' none σ' e' → Same G G' → Rep C.K G' v d → (∀ v G' H', Grow C G H G' H' → Rep C.K G' v d → Q v H') → Q v H' := fun {v σ' G' H' e' d} R' s' rv hQ => by
        refine hQ v G' H' ⟨s', R'.gh, fun p hp ht => ?_, fun p hp hn => ?_, R'.tabs⟩ rv
        · cases q : H p with
          | none => exact absurd q hp
          | some o => exact R'.fh p o ((if_neg ht).trans q)
        · by_cases ht : p ∈ C.tt
          · rw [(R'.tb p ht).2.1, (tb p ht).2]
          · exact R'.gf p (fun z => hp ((if_neg ht).symm.trans z)) (fun xs z => hn xs ((if_neg ht).symm.trans z))
      split at hφ
      · rename_i d1 e1 hx
        cases hφ
        exact ⟨_, G, G, none, _, _, R, hx, fun v σ' G' H' R' s' rv => fin R' s' rv hQ⟩
      · rename_i e1 hx
        cases hφ
        exact ⟨_, G, G, none, _, _, R, hx, fun σ' G' H' R' s' => fin R' s' .non hQ⟩
      · cases hφ
    · cases hφ
theorem fnO_of (F : FunD K nm qual params body scope [] [] f fd) (S : FnScope N ps scope) (hK : C.K = K) (hb : ∀ (cdv : Value) (A : Around) (outer : List Env) (s0 : Shared) (H : Hp) (E : XK), (∀ oc od osl fd', K.lookup f = some ⟨oc, od, .func fd', osl⟩ → fd'.code = cdv) → Room k (A.deeper (envOfC qual scope s0.heap.objs.size f cdv)) →
      PSs (cxOf CX0 P w K mg base N qual scope f cdv A outer s0 H E).nox body (tS C s)) : FnOk P w K mg base CX0 (k + 1) f fd ps (spO C ps.length (runO ps.length N.length s)) := by
  obtain ⟨oc, od, dV, kV, doc, pm, an, cdv, ct, osl, rfl, lk, hcd, _, _⟩ := F.ex
  refine fn_of lk hcd S (fun vs H Q E h => ?_) fun A outer s0 H vs Q E hr hsp => ?_
  · obtain ⟨_, _, _, _, _, _, _, _, _, h, _⟩ := h
    exact h
  · refine ⟨_, (hb cdv A outer s0 H E (fun oc2 od2 osl2 fd2 h => by rw [lk] at h; cases h; rfl) hr).nox, ?_⟩
    obtain ⟨G, p0, o0, d0, ws, ds, d, d1, rfl, hl, gh, tb, g0, t0, h0, r0, rl, hφ, hQ⟩ := hsp
    unfold runO at hφ
    dsimp only at hφ
    split at hφ
    · rename_i hn
      have R : Rel C (fun p => if p ∈ C.tt ∨ p = p0 then none else H p) G G H (some (0, p0)) (L2.start N (.ref p0 :: ws)) (initO N.length d0 ds) := by
        have hle : ∀ i, i < ds.length → (initO N.length d0 ds)[i + 1]? = (ds[i]?).map B.im := fun i hi => by
          unfold initO
          rw [List.getElem?_cons_succ, List.getElem?_append_left (by rw [List.length_map]; exact hi), List.getElem?_map]
        have hge : ∀ i b, ds.length ≤ i → (initO N.length d0 ds)[i + 1]? = some b → b = .un := fun i b hi h => by
          unfold initO at h
          rw [List.getElem?_cons_succ, List.getElem?_append_right (by rw [List.length_map]; exact hi)] at h
          exact (List.mem_replicate.mp (List.mem_of_getElem? h)).2
        have ow : ∀ (i : Nat) (b : B), (initO N.length d0 ds)[i + 1]? = some b → b.isOw = true → False := fun i b h1 h2 => by
          by_cases hi : i < ds.length
          · rw [hle i hi] at h1
            cases q : ds[i]? with
            | none => rw [q] at h1; cases h1
            | some d => rw [q] at h1; cases h1; cases h2
          · rw [hge i b (by omega) h1] at h2; cases h2
        refine ⟨fun b o h => ?_, gh, fun _ _ _ => rfl, fun P hP => ⟨(tb P hP).1, (tb P hP).2, if_pos (.inl hP)⟩, fun i b h => ?_, fun i j p ⟨_, b, h1, h2⟩ ⟨_, b', h3, h4⟩ => ?_, fun i p h => ?_, ?_⟩
        · have h' : (if b ∈ C.tt ∨ b = p0 then none else H b) = some o := h
          split at h'
          · cases h'
          · exact h'
        · cases i with
          | zero =>
            cases h
            exact ⟨p0, o0, rfl, g0, if_pos (.inr rfl), t0, h0, r0⟩
          | succ i =>
            by_cases hi : i < ds.length
            · rw [hle i hi] at h
              cases q : ds[i]? with
              | none => rw [q] at h; cases h
              | some d =>
                rw [q] at h
                cases h
                obtain ⟨v, h1, h2⟩ := rl.getD q
                refine ⟨v, ?_, h2⟩
                unfold L2.start
                rw [List.map_cons, List.cons_append, List.getElem?_cons_succ, List.getElem?_append_left (by rw [List.length_map, rl.length]; exact hi), List.getElem?_map, h1]
                rfl
            · rw [hge i b (by omega) h]
              trivial
        · cases i with
          | zero =>
            cases j with
            | zero => rfl
            | succ j => exact (ow j b' h3 h4).elim
          | succ i => exact (ow i b h1 h2).elim
        · cases h
          exact ⟨rfl, d0, rfl⟩
        · unfold L2.start initO
          simp only [List.length_append, List.length_cons, List.length_map, List.length_replicate, rl.length]
          omega
      have fin : ∀ {v : V} {σ' : St} {G' H' : Hp} {e' : Env'} {d d1 : D}, Rel C (fun p => if p ∈ C.tt ∨ p = p0 then none else H p) G G' H' (some (0, p0)) σ' e' → Same G G' → Rep C.K G' v d → outO e' = some d1 →
          (∀ v G' H' o', GrowO C p0 G H G' H' → Rep C.K G' v d → H' p0 = some o' → RepO C.K G' o' d1 → Q v H') → Q v H' := fun {v σ' G' H' e' d d1} R' s' rv ho hQ => by
        obtain ⟨k1, dd, k2⟩ := R'.pi 0 p0 rfl
        obtain ⟨p1, o1, z, z1, _, z3, z4, z5⟩ := R'.sl 0 _ k2
        rw [k1] at z
        cases z
        have e1 : dd = d1 := by
          cases e' with
          | nil => cases k2
          | cons b e' =>
            cases k2
            exact Option.some.inj ho
        subst e1
        refine hQ v G' H' o1 ⟨s', R'.gh, fun p hp hp2 ht => ?_, fun p hp hn => ?_, R'.tabs⟩ rv z4 z5
        · cases q : H p with
          | none => exact absurd q hp2
          | some o => exact R'.fh p o ((if_neg (fun z => z.elim ht hp)).trans q)
        · by_cases ht : p ∈ C.tt
          · rw [(R'.tb p ht).2.1, (tb p ht).2]
          · by_cases hp0 : p = p0
            · rw [hp0, z1, g0]
            · exact R'.gf p (fun z => hp ((if_neg (fun z => z.elim ht hp0)).symm.trans z)) (fun xs z => hn xs ((if_neg (fun z => z.elim ht hp0)).symm.trans z))
      split at hφ
      · rename_i d2 e1 hx
        cases q : outO e1 with
        | none => rw [q] at hφ; cases hφ
        | some d3 =>
          rw [q] at hφ
          cases hφ
          exact ⟨_, G, G, some (0, p0), _, _, R, hx, fun v σ' G' H' R' s' rv => fin R' s' rv q hQ⟩
      · rename_i e1 hx
        cases q : outO e1 with
        | none => rw [q] at hφ; cases hφ
        | some d3 =>
          rw [q] at hφ
          cases hφ
          exact ⟨_, G, G, some (0, p0), _, _, R, hx, fun σ' G' H' R' s' => fin R' s' .non q hQ⟩
      · cases hφ
    · cases hφ
end
end Mi

/-! The operations. -/
namespace Mi
open PySem PySem.Spec PyProof.Rows L2 GxR
section
variable {X : Cx} {C : Cfg}
/-! ### results -/
theorem res_flat {G H : Hp} {Q : VK} {v : V} {d : D} (s : Same G H) (t : ∀ P ∈ C.tt, TabG H P) (k : ∀ v G' H', Grow C G H G' H' → Rep C.K G' v d → Q v H') (r : Rep C.K G v d) : Q v H := k v G H (Grow.refl s t) r
theorem strOf (s : List Nat) : (⟨s.toArray⟩ : Str).cps.toList = s := by simp
theorem strLen (s : List Nat) : (⟨s.toArray⟩ : Str).length = s.length := by simp [Str.length]
theorem strApp (a b : List Nat) : (⟨a.toArray⟩ : Str) ++ ⟨b.toArray⟩ = ⟨(a ++ b).toArray⟩ := by
  show (⟨a.toArray ++ b.toArray⟩ : Str) = _
  simp
/-! ### + - * // % ** -/
def addF : List D → Option D
  | [.int a, .int b] => some (.int (a + b))
  | [.str a, .str b] => if a.length + b.length ≤ 16000000 then some (.str (a ++ b)) else none
  | [.lst a, .lst b] => if a.length + b.length ≤ 16000000 then some (.lst (a ++ b)) else none
  | [.tup a, .tup b] => if a.length + b.length ≤ 16000000 then some (.tup (a ++ b)) else none
  | [.int a, .bl b] => some (.int (a + if b then 1 else 0))
  | _ => none
/-- lists alone, a new one -/
def addLF : List D → Option D
  | [.lst a, .lst b] => if a.length + b.length ≤ 16000000 then some (.lst (a ++ b)) else none
  | _ => none
theorem addF_two : Two addF := fun ds d h => by
  unfold addF at h
  split at h <;> first | rfl | cases h
theorem addLF_two : Two addLF := fun ds d h => by
  unfold addLF at h
  split at h <;> first | rfl | cases h
/-- () + t is t itself -/
theorem cat_tup0 {prog : Program} {w : World} {A : Around} {E : Value → Shared → Prop} {s : Shared} {t b : Addr} {vs ws : List Value} {Q : Value → Shared → Prop} (ht : IsTup s.heap t vs.toArray) (hb : IsTup s.heap b ws.toArray) (hv : vs = [])
    (h : Q (.ref b) s) : wpAny (model prog w) A (binaryOp .Add (.ref t) (.ref b)) Q E s := by
  obtain ⟨⟨cls, dd, data, sl⟩, ho, hc, n, hd⟩ := id ht
  obtain ⟨⟨cls2, dd2, data2, sl2⟩, ho2, hc2, n2, hd2⟩ := id hb
  simp only at hc hd hc2 hd2
  subst hc hd hc2 hd2
  exact concat_meets ⟨_, ho, rfl⟩ ⟨_, ho2, rfl⟩ noFill_tuple_add seq_tuple_add PySem.F.slot_tuple_add PySem.F.entry_tuple_add (PySem.F.args_tuple_add_2 _ _)
      (tuple_addW0 t b vs.toArray ws.toArray n n2 dd dd2 sl sl2 (by simp [hv])) ⟨ho, ho2, h⟩
def rCat0 (K : Frag) : R2 := fun x y H Q => ∃ a b ys, x = .ref a ∧ y = .ref b ∧ SqT K H a [] ∧ SqT K H b ys ∧ Q (.ref b) H
theorem op_cat0 : OpR X (binaryOp .Add) (rCat0 X.K) := by
  intro pins s σ H x y v u Q I rx ry h
  obtain ⟨a, b, ys, rfl, rfl, ha, hb, q⟩ := h
  cases rx
  cases ry
  obtain ⟨its, r1, p1, _⟩ := I.tuple ha
  obtain ⟨its2, r2, p2, _⟩ := I.tuple hb
  exact cat_tup0 p1 p2 (r1.nil_iff.mpr rfl) ⟨.ref b, H, I, rfl, q⟩
def rAddA (K : Frag) : R2 := fun x y H Q => rI0 (fun i j => .int (i + j)) x y H Q ∨ (∃ i j, x = .str i ∧ y = .str j ∧ i.length + j.length ≤ sizeLine ∧ Q (.str (i ++ j)) H) ∨ rCat x y H Q ∨ (rCatT K x y H Q ∨ rCat0 K x y H Q) ∨ (∃ i k, x = .int i ∧ y = .bl k ∧ Q (.int (i + b2i k)) H)
theorem op_addA : OpR X (binaryOp .Add) (rAddA X.K) := op_add.or (op_add_str.or (op_cat.or ((op_catT.or op_cat0).or op_add_ib)))
theorem addLF_ok : Ok2F C rCat addLF := fun x y a b d G H Q s t r1 r2 e k => by
  unfold addLF at e
  split at e
  · rename_i l m hq
    cases hq
    split at e
    · rename_i hz
      cases e
      cases r1 with
      | lst q1 rr1 =>
        cases r2 with
        | lst q2 rr2 => exact ⟨_, _, _, _, rfl, rfl, q1, q2, by rw [rr1.length, rr2.length]; exact lim16 hz, fun p hp => k p _ hp (.lst (rr1.append rr2))⟩
    · cases e
  · cases e
theorem addF_ok (hK : C.K = X.K) : Ok2 C (rAddA X.K) addF := fun x y a b d G H Q s t r1 r2 e k => by
  unfold addF at e
  split at e
  · rename_i i j hq
    cases hq
    cases e
    cases r1
    cases r2
    exact .inl ⟨i, j, rfl, rfl, res_flat s t k (.int _)⟩
  · rename_i i j hq
    cases hq
    split at e
    · rename_i hz
      cases e
      cases r1
      cases r2
      refine .inr (.inl ⟨_, _, rfl, rfl, by rw [strLen, strLen]; exact lim16 hz, ?_⟩)
      rw [strApp]
      exact res_flat s t k (.str _)
    · cases e
  · rename_i l m hq
    cases hq
    split at e
    · rename_i hz
      cases e
      exact .inr (.inr (.inl (addLF_ok x y (.lst l) (.lst m) _ G H Q s t r1 r2 (by unfold addLF; exact if_pos hz) (known_of_new s t k))))
    · cases e
  · rename_i l m hq
    cases hq
    split at e
    · rename_i hz
      cases e
      cases r1 with
      | tup g1 q1 rr1 =>
        cases r2 with
        | tup g2 q2 rr2 =>
          by_cases h0 : l = []
          · subst h0
            cases rr1
            exact .inr (.inr (.inr (.inl (.inr ⟨_, _, _, rfl, rfl, SqT.of q1, SqT.of q2, res_flat s t k (.tup g2 rr2)⟩))))
          · refine .inr (.inr (.inr (.inl (.inl ⟨_, _, _, _, rfl, rfl, SqT.of q1, SqT.of q2, fun z => h0 ?_, by rw [rr1.length, rr2.length]; exact lim16 hz, fun z => ?_, fun _ p hp => ?_⟩))))
            · rw [z] at rr1; cases rr1; rfl
            · rw [z] at rr2
              cases rr2
              rw [List.append_nil] at k
              exact res_flat s t k (.tup g1 rr1)
            · have gp := s.free hp
              exact k (.ref p) (upd G p (.tup _)) (upd H p (.tup _)) (grow_new s t hp) (.tup upd_same ((rr1.append rr2).mono fun b u hb => by rw [upd_ne (ne_of_none hb gp)]; exact hb))
    · cases e
  · rename_i i b hq
    cases hq
    cases e
    cases r1
    cases r2
    exact .inr (.inr (.inr (.inr ⟨i, b, rfl, rfl, res_flat s t k (by cases b <;> exact .int _)⟩)))
  · cases e
def subF : List D → Option D
  | [.int a, .int b] => some (.int (a - b))
  | _ => none
theorem subF_two : Two subF := fun ds d h => by
  unfold subF at h
  split at h <;> first | rfl | cases h
theorem subF_ok : Ok2 C (rI0 fun i j => .int (i - j)) subF := fun x y a b d G H Q s t r1 r2 e k => by
  unfold subF at e
  split at e
  · rename_i i j hq
    cases hq
    cases e
    cases r1
    cases r2
    exact ⟨i, j, rfl, rfl, res_flat s t k (.int _)⟩
  · cases e
def mulF : List D → Option D
  | [.int a, .int b] => if (-(2 ^ 64) < a ∧ a < 2 ^ 64) ∨ (-(2 ^ 64) < b ∧ b < 2 ^ 64) then some (.int (a * b)) else none
  | [.str s, .int n] => if n ≤ 16000000 ∧ -16000000 ≤ n ∧ s.length * n.toNat ≤ 16000000 then some (.str (List.replicate n.toNat s).flatten) else none
  | [.lst l, .int n] => if n ≤ 16000000 ∧ -16000000 ≤ n ∧ l.length * n.toNat ≤ 16000000 then some (.lst (List.replicate n.toNat l).flatten) else none
  | _ => none
def mulLF : List D → Option D
  | [.lst l, .int n] => if n ≤ 16000000 ∧ -16000000 ≤ n ∧ l.length * n.toNat ≤ 16000000 then some (.lst (List.replicate n.toNat l).flatten) else none
  | _ => none
theorem mulF_two : Two mulF := fun ds d h => by
  unfold mulF at h
  split at h <;> first | rfl | cases h
theorem mulLF_two : Two mulLF := fun ds d h => by
  unfold mulLF at h
  split at h <;> first | rfl | cases h
def rStrRep : R2 := fun x y H Q => ∃ (z : List Nat) (n : Int), x = .str ⟨z.toArray⟩ ∧ y = .int n ∧ n ≤ 16000000 ∧ -16000000 ≤ n ∧ z.length * n.toNat ≤ 16000000 ∧ Q (.str ⟨(List.replicate n.toNat z).flatten.toArray⟩) H
theorem foldl_str (z : List Nat) : ∀ (n : Nat) (acc : Array Nat), (List.replicate n z.toArray).foldl (· ++ ·) acc = acc ++ (List.replicate n z).flatten.toArray
  | 0, acc => by simp
  | n + 1, acc => by
    rw [List.replicate_succ, List.foldl_cons, foldl_str z n]
    simp [List.replicate_succ]
theorem op_strrep : OpR X (binaryOp .Mult) rStrRep := by
  intro pins s σ H x y v u Q I rx ry h
  obtain ⟨z, n, rfl, rfl, h1, h2, h3, q⟩ := h
  obtain ⟨t, rfl⟩ := rx
  obtain ⟨t', rfl⟩ := ry
  refine PySem.P.mul_str (by
    have e1 : decide (n < -(2 ^ 63 : Int)) = false := decide_eq_false (by omega)
    have e2 : decide (n ≥ 2 ^ 63) = false := decide_eq_false (by omega)
    rw [e1, e2] <;> rfl) (fun hn hz => ?_) (fun hn hz => ?_) ?_
  · rw [strLen]
    have hn1 : 1 ≤ n := by omega
    have h4 : z.length ≤ 16000000 := by
      have : z.length * 1 ≤ z.length * n.toNat := Nat.mul_le_mul_left _ (by omega)
      omega
    have h5 : (2 ^ 63 - 1) / 16000000 ≤ ((2 : Int) ^ 63 - 1) / n := by
      have : ((2 : Int) ^ 63 - 1) / 16000000 ≤ (2 ^ 63 - 1) / n := by
        refine Int.le_ediv_of_mul_le (by omega) ?_
        have h6 : ((2 : Int) ^ 63 - 1) / 16000000 * n ≤ ((2 : Int) ^ 63 - 1) / 16000000 * 16000000 := Int.mul_le_mul_of_nonneg_left h1 (by decide)
        have h7 : ((2 : Int) ^ 63 - 1) / 16000000 * 16000000 ≤ 2 ^ 63 - 1 := by decide
        omega
      exact this
    have h8 : (16000000 : Int) ≤ (2 ^ 63 - 1) / 16000000 := by decide
    omega
  · rw [strLen]
    have := lim16 h3
    unfold Builtin.Str.tooLong
    simpa using this
  · by_cases hn : n < 1
    · rw [if_pos hn]
      have e0 : n.toNat = 0 := by omega
      rw [e0] at q
      exact ⟨by decide, .str _, H, I.tok _, ⟨_, rfl⟩, q⟩
    · rw [if_neg hn]
      by_cases hz : (n == 1 || (⟨z.toArray⟩ : Str).length == 0) = true
      · rw [if_pos hz]
        have e0 : (List.replicate n.toNat z).flatten = z := by
          rcases Bool.or_eq_true_iff.mp hz with e | e
          · have : n = 1 := by simpa using e
            subst this
            simp
          · rw [strLen] at e
            have : z = [] := by
              cases z with
              | nil => rfl
              | cons a b => simp at e
            subst this
            simp
        rw [e0] at q
        exact ⟨.str _, H, I, ⟨_, rfl⟩, q⟩
      · rw [if_neg hz]
        have e1 : (List.replicate n.toNat (⟨z.toArray⟩ : Str).cps).foldl (· ++ ·) #[] = (List.replicate n.toNat z).flatten.toArray := by
          show (List.replicate n.toNat z.toArray).foldl (· ++ ·) #[] = _
          rw [foldl_str]
          simp
        rw [e1]
        refine ⟨?_, .str _, H, I.tok _, ⟨_, rfl⟩, q⟩
        rw [strLen]
        have : (List.replicate n.toNat z).flatten.length = z.length * n.toNat := by
          rw [List.length_flatten, List.map_replicate, List.sum_replicate_nat, Nat.mul_comm]
        rw [this]
        exact lim16 h3
def rMulA : R2 := fun x y H Q => rI CMul (fun i j => .int (i * j)) x y H Q ∨ rStrRep x y H Q ∨ rRep x y H Q
theorem op_mulA : OpR X (binaryOp .Mult) rMulA := op_mul.or (op_strrep.or op_rep)
theorem repL_rep {K : Frag} {G : Hp} {xs : List V} {ds : List D} (r : RepL K G xs ds) : ∀ n : Nat, RepL K G (List.replicate n xs).flatten (List.replicate n ds).flatten
  | 0 => by simpa using RepL.nil
  | n + 1 => by
    rw [List.replicate_succ, List.replicate_succ, List.flatten_cons, List.flatten_cons]
    exact r.append (repL_rep r n)
theorem mulLF_ok : Ok2F C rRep mulLF := fun x y a b d G H Q s t r1 r2 e k => by
  unfold mulLF at e
  split at e
  · rename_i l n hq
    cases hq
    split at e
    · rename_i hz
      cases e
      cases r2
      cases r1 with
      | lst q1 rr1 => exact ⟨_, n, _, rfl, rfl, q1, by omega, by omega, by rw [rr1.length]; exact lim16 hz.2.2, fun p hp => k p _ hp (.lst (repL_rep rr1 _))⟩
    · cases e
  · cases e
theorem mulF_ok : Ok2 C rMulA mulF := fun x y a b d G H Q s t r1 r2 e k => by
  unfold mulF at e
  split at e
  · rename_i i j hq
    cases hq
    split at e
    · rename_i hz
      cases e
      cases r1
      cases r2
      exact .inl ⟨i, j, rfl, rfl, hz, res_flat s t k (.int _)⟩
    · cases e
  · rename_i z n hq
    cases hq
    split at e
    · rename_i hz
      cases e
      cases r1
      cases r2
      exact .inr (.inl ⟨z, n, rfl, rfl, hz.1, hz.2.1, hz.2.2, res_flat s t k (.str _)⟩)
    · cases e
  · rename_i l n hq
    cases hq
    split at e
    · rename_i hz
      cases e
      exact .inr (.inr (mulLF_ok x y (.lst l) (.int n) _ G H Q s t r1 r2 (by unfold mulLF; exact if_pos hz) (known_of_new s t k)))
    · cases e
  · cases e
def fdivF : List D → Option D
  | [.int a, .int b] => if b ≠ 0 ∧ b.natAbs < 1073741824 then some (.int (a.fdiv b)) else none
  | _ => none
theorem fdivF_two : Two fdivF := fun ds d h => by
  unfold fdivF at h
  split at h <;> first | rfl | cases h
theorem fdivF_ok : Ok2 C (rI CDivN fun i j => .int (i.fdiv j)) fdivF := fun x y a b d G H Q s t r1 r2 e k => by
  unfold fdivF at e
  split at e
  · rename_i i j hq
    cases hq
    split at e
    · rename_i hz
      cases e
      cases r1
      cases r2
      exact ⟨i, j, rfl, rfl, hz, res_flat s t k (.int _)⟩
    · cases e
  · cases e
def modF : List D → Option D
  | [.int a, .int b] => if b ≠ 0 then some (.int (a.fmod b)) else none
  | _ => none
theorem modF_two : Two modF := fun ds d h => by
  unfold modF at h
  split at h <;> first | rfl | cases h
theorem modF_ok : Ok2 C (rI (fun _ j => j ≠ 0) fun i j => .int (i.fmod j)) modF := fun x y a b d G H Q s t r1 r2 e k => by
  unfold modF at e
  split at e
  · rename_i i j hq
    cases hq
    split at e
    · rename_i hz
      cases e
      cases r1
      cases r2
      exact ⟨i, j, rfl, rfl, hz, res_flat s t k (.int _)⟩
    · cases e
  · cases e
def powF : List D → Option D
  | [.int a, .int b] => if 0 ≤ b ∧ b ≤ 1000000 ∧ a.natAbs < 2 ^ 64 then some (.int (a ^ b.toNat)) else none
  | _ => none
theorem powF_two : Two powF := fun ds d h => by
  unfold powF at h
  split at h <;> first | rfl | cases h
theorem powF_ok : Ok2 C (rI CPow fun i j => .int (i ^ j.toNat)) powF := fun x y a b d G H Q s t r1 r2 e k => by
  unfold powF at e
  split at e
  · rename_i i j hq
    cases hq
    split at e
    · rename_i hz
      cases e
      cases r1
      cases r2
      exact ⟨i, j, rfl, rfl, hz, res_flat s t k (.int _)⟩
    · cases e
  · cases e
def negF : List D → Option D
  | [.int a] => some (.int (-a))
  | _ => none
theorem repTs_one {G H : Hp} {vs : List V} {d : D} (r : RepTs C.K G H vs [d]) : ∃ v, vs = [v] ∧ RepT C.K G H v d := by
  cases r with
  | cons a b => cases b; exact ⟨_, rfl, a⟩
theorem repTs_two {G H : Hp} {vs : List V} {d e : D} (r : RepTs C.K G H vs [d, e]) : ∃ v w, vs = [v, w] ∧ RepT C.K G H v d ∧ RepT C.K G H w e := by
  cases r with
  | cons a b =>
    cases b with
    | cons b c => cases c; exact ⟨_, _, rfl, a, b⟩
theorem negF_ok : OkN C (fun vs H Q => ∃ a, vs = [a] ∧ rU (fun i => .int (-i)) a H Q) negF := fun vs ds d G H Q s t r e k => by
  unfold negF at e
  split at e
  · rename_i i
    cases e
    obtain ⟨v, rfl, rv⟩ := repTs_one r
    cases rv
    exact ⟨_, rfl, i, rfl, res_flat s t k (.int _)⟩
  · cases e
/-! ### comparisons -/
def cmpF (fi : Int → Int → Bool) (fs : List Nat → List Nat → Bool) : List D → Option D
  | [.int a, .int b] => some (.bl (fi a b))
  | [.str a, .str b] => some (.bl (fs a b))
  | _ => none
theorem cmpF_two {fi : Int → Int → Bool} {fs : List Nat → List Nat → Bool} : Two (cmpF fi fs) := fun ds d h => by
  unfold cmpF at h
  split at h <;> first | rfl | cases h
theorem cmpF_boo {fi : Int → Int → Bool} {fs : List Nat → List Nat → Bool} : Boo (cmpF fi fs) := fun ds d h => by
  unfold cmpF at h
  split at h
  · cases h; exact ⟨_, rfl⟩
  · cases h; exact ⟨_, rfl⟩
  · cases h
def rCmpA (fi : Int → Int → Bool) (fs : List Nat → List Nat → Bool) : R2 := fun x y H Q => rI0 (fun i j => .bl (fi i j)) x y H Q ∨ ∃ i j, x = .str i ∧ y = .str j ∧ Q (.bl (fs i.cps.toList j.cps.toList)) H
theorem cmpF_ok {fi : Int → Int → Bool} {fs : List Nat → List Nat → Bool} : Ok2 C (rCmpA fi fs) (cmpF fi fs) := fun x y a b d G H Q s t r1 r2 e k => by
  unfold cmpF at e
  split at e
  · rename_i i j hq
    cases hq
    cases e
    cases r1
    cases r2
    exact .inl ⟨i, j, rfl, rfl, res_flat s t k (.bl _)⟩
  · rename_i i j hq
    cases hq
    cases e
    cases r1
    cases r2
    refine .inr ⟨_, _, rfl, rfl, ?_⟩
    rw [strOf, strOf]
    exact res_flat s t k (.bl _)
  · cases e
abbrev ltF := cmpF (fun i j => decide (i < j)) fun a b => decide (a < b)
abbrev leF := cmpF (fun i j => decide (i ≤ j)) fun a b => !decide (b < a)
abbrev gtF := cmpF (fun i j => decide (j < i)) fun a b => decide (b < a)
abbrev geF := cmpF (fun i j => decide (j ≤ i)) fun a b => !decide (a < b)
theorem op_ltA : OpR X (compareOp .Lt) (rCmpA (fun i j => decide (i < j)) fun a b => decide (a < b)) := op_lt.or op_lt_str
theorem op_leA : OpR X (compareOp .LtE) (rCmpA (fun i j => decide (i ≤ j)) fun a b => !decide (b < a)) := op_le.or op_le_str
theorem op_gtA : OpR X (compareOp .Gt) (rCmpA (fun i j => decide (j < i)) fun a b => decide (b < a)) := op_gt.or op_gt_str
theorem op_geA : OpR X (compareOp .GtE) (rCmpA (fun i j => decide (j ≤ i)) fun a b => !decide (a < b)) := op_ge.or op_ge_str
/-! ### == -/
mutual
def D.eqv : D → D → Bool
  | .non, .non => true
  | .bl a, .bl b => a == b
  | .bl a, .int j => (if a then 1 else 0) == j
  | .int i, .bl b => i == (if b then 1 else 0)
  | .int i, .int j => i == j
  | .str x, .str y => x == y
  | .lst xs, .lst ys => D.eqvL xs ys
  | .tup xs, .tup ys => D.eqvL xs ys
  | _, _ => false
def D.eqvL : List D → List D → Bool
  | [], [] => true
  | x :: xs, y :: ys => D.eqv x y && D.eqvL xs ys
  | _, _ => false
end
mutual
def D.py : D → PyData
  | .non => .none
  | .bl b => .bool b
  | .int i => .int i
  | .str s => .str ⟨s.toArray⟩
  | .lst l => .list (D.pyL l)
  | .tup l => .tuple (D.pyL l)
  | .dic _ _ => .dict []
  | .scr _ => .dict []
def D.pyL : List D → List PyData
  | [] => []
  | d :: ds => d.py :: D.pyL ds
end
mutual
def D.shp : Nat → D → Bool
  | _, .non => true
  | _, .bl _ => true
  | _, .int _ => true
  | _, .str s => s.all fun c => decide (c < 1114112)
  | 0, .lst _ => false
  | n + 1, .lst l => D.shpL n l
  | 0, .tup _ => false
  | n + 1, .tup l => D.shpL n l
  | _, .dic _ _ => false
  | _, .scr _ => false
def D.shpL : Nat → List D → Bool
  | _, [] => true
  | n, d :: ds => D.shp n d && D.shpL n ds
end
theorem str_beq (x y : List Nat) : ((⟨x.toArray⟩ : Str) == ⟨y.toArray⟩) = (x == y) := by
  rw [Bool.eq_iff_iff]
  simp
mutual
theorem eqv_py : ∀ a b : D, PyData.eqv a.py b.py = a.eqv b
  | .non, b => by cases b <;> simp [D.py, D.eqv, PyData.eqv]
  | .bl x, b => by cases b <;> simp [D.py, D.eqv, PyData.eqv]
  | .int i, b => by cases b <;> simp [D.py, D.eqv, PyData.eqv]
  | .str s, b => by
    cases b with
    | str t => simp only [D.py, D.eqv, PyData.eqv]; exact str_beq s t
    | _ => simp [D.py, D.eqv, PyData.eqv]
  | .lst l, b => by
    cases b with
    | lst m => simp only [D.py, D.eqv, PyData.eqv]; exact eqv_pyL l m
    | _ => simp [D.py, D.eqv, PyData.eqv]
  | .tup l, b => by
    cases b with
    | tup m => simp only [D.py, D.eqv, PyData.eqv]; exact eqv_pyL l m
    | _ => simp [D.py, D.eqv, PyData.eqv]
  | .dic ks vs, b => by cases b <;> simp [D.py, D.eqv, PyData.eqv]
  | .scr ns, b => by cases b <;> simp [D.py, D.eqv, PyData.eqv]
theorem eqv_pyL : ∀ a b : List D, PyData.eqvAll (D.pyL a) (D.pyL b) = D.eqvL a b
  | [], [] => by simp [D.pyL, D.eqvL, PyData.eqvAll]
  | [], _ :: _ => by simp [D.pyL, D.eqvL, PyData.eqvAll]
  | _ :: _, [] => by simp [D.pyL, D.eqvL, PyData.eqvAll]
  | x :: xs, y :: ys => by simp only [D.pyL, D.eqvL, PyData.eqvAll]; rw [eqv_py x y, eqv_pyL xs ys]
end
mutual
theorem shp_can : ∀ (n : Nat) (d : D), d.shp n = true → d.py.canLay0 = true ∧ d.py.depth ≤ n
  | n, .non, _ => by simp [D.py, PyData.canLay0, PyData.depth]
  | n, .bl _, _ => by simp [D.py, PyData.canLay0, PyData.depth]
  | n, .int _, _ => by simp [D.py, PyData.canLay0, PyData.depth]
  | n, .str s, h => by
    simp only [D.py, PyData.canLay0, PyData.depth]
    refine ⟨?_, Nat.zero_le _⟩
    unfold D.shp at h
    simpa [PySem.PyData.strOk, PyData.strOk] using h
  | 0, .lst _, h => by unfold D.shp at h; cases h
  | n + 1, .lst l, h => by
    unfold D.shp at h
    obtain ⟨h1, h2⟩ := shp_canL n l h
    simp only [D.py, PyData.canLay0, PyData.depth]
    exact ⟨h1, by omega⟩
  | 0, .tup _, h => by unfold D.shp at h; cases h
  | n + 1, .tup l, h => by
    unfold D.shp at h
    obtain ⟨h1, h2⟩ := shp_canL n l h
    simp only [D.py, PyData.canLay0, PyData.depth]
    exact ⟨h1, by omega⟩
  | n, .dic _ _, h => by unfold D.shp at h; cases h
  | n, .scr _, h => by unfold D.shp at h; cases h
theorem shp_canL : ∀ (n : Nat) (ds : List D), D.shpL n ds = true → PyData.canLayAll0 (D.pyL ds) = true ∧ PyData.depthAll (D.pyL ds) ≤ n
  | n, [], _ => by simp [D.pyL, PyData.canLayAll0, PyData.depthAll]
  | n, d :: ds, h => by
    unfold D.shpL at h
    obtain ⟨h1, h2⟩ := Bool.and_eq_true_iff.mp h
    obtain ⟨k1, k2⟩ := shp_can n d h1
    obtain ⟨k3, k4⟩ := shp_canL n ds h2
    simp only [D.pyL, PyData.canLayAll0, PyData.depthAll]
    exact ⟨by rw [k1, k3]; rfl, Nat.max_le.mpr ⟨k2, k4⟩⟩
end
theorem shp_shaped {n : Nat} (hn : n ≤ 64) {d : D} (h : d.shp n = true) : SeqAt.shaped d.py = true := by
  obtain ⟨h1, h2⟩ := shp_can n d h
  unfold SeqAt.shaped
  rw [h1]
  simp only [Bool.true_and, decide_eq_true_eq]
  omega
mutual
theorem rep_dp {K : Frag} {H : Hp} : ∀ (n : Nat) (d : D) (v : V), d.shp n = true → Rep K H v d → Dp K H v d.py
  | _, .non, _, _, h => by cases h; simp only [D.py]; exact .non
  | _, .bl b, _, _, h => by cases h; simp only [D.py]; exact .bl b
  | _, .int i, _, _, h => by cases h; simp only [D.py]; exact .int i
  | _, .str s, _, _, h => by cases h; simp only [D.py]; exact .str _
  | 0, .lst l, _, hs, h => by unfold D.shp at hs; cases hs
  | n + 1, .lst l, _, hs, h => by
    unfold D.shp at hs
    cases h with
    | lst q r => simp only [D.py]; exact .lst (SqL.of q) (rep_dpL n l _ hs r)
  | 0, .tup l, _, hs, h => by unfold D.shp at hs; cases hs
  | n + 1, .tup l, _, hs, h => by
    unfold D.shp at hs
    cases h with
    | tup q r => simp only [D.py]; exact .tup (SqT.of q) (rep_dpL n l _ hs r)
  | _, .dic _ _, _, hs, _ => by unfold D.shp at hs; cases hs
  | _, .scr _, _, hs, _ => by unfold D.shp at hs; cases hs
theorem rep_dpL {K : Frag} {H : Hp} : ∀ (n : Nat) (ds : List D) (vs : List V), D.shpL n ds = true → RepL K H vs ds → DpAll K H vs (D.pyL ds)
  | _, [], _, _, h => by cases h; simp only [D.pyL]; exact .nil
  | n, d :: ds, _, hs, h => by
    unfold D.shpL at hs
    obtain ⟨h1, h2⟩ := Bool.and_eq_true_iff.mp hs
    cases h with
    | cons a b => simp only [D.pyL]; exact .cons (rep_dp n d _ h1 a) (rep_dpL n ds _ h2 b)
end
/-- plain values that one rule compares -/
def scl : D → D → Bool
  | .non, .non => true
  | .non, .int _ => true
  | .int _, .non => true
  | .non, .bl _ => true
  | .bl _, .non => true
  | .non, .str _ => true
  | .str _, .non => true
  | .int _, .int _ => true
  | .bl _, .bl _ => true
  | .str _, .str _ => true
  | .int _, .str _ => true
  | .str _, .int _ => true
  | .bl _, .str _ => true
  | .str _, .bl _ => true
  | _, _ => false
def eqF : List D → Option D
  | [a, b] => if scl a b = true ∨ (a.shp 16 = true ∧ b.shp 16 = true) then some (.bl (a.eqv b)) else none
  | _ => none
def neF : List D → Option D
  | [a, b] => if scl a b = true ∨ (a.shp 16 = true ∧ b.shp 16 = true) then some (.bl (!a.eqv b)) else none
  | _ => none
theorem eqF_two : Two eqF := fun ds d h => by
  unfold eqF at h
  split at h <;> first | rfl | cases h
theorem neF_two : Two neF := fun ds d h => by
  unfold neF at h
  split at h <;> first | rfl | cases h
theorem eqF_boo : Boo eqF := fun ds d h => by
  unfold eqF at h
  split at h
  · split at h
    · cases h; exact ⟨_, rfl⟩
    · cases h
  · cases h
theorem neF_boo : Boo neF := fun ds d h => by
  unfold neF at h
  split at h
  · split at h
    · cases h; exact ⟨_, rfl⟩
    · cases h
  · cases h
theorem scl_eq {K : Frag} {G H : Hp} {x y : V} {a b : D} (r1 : RepT K G H x a) (r2 : RepT K G H y b) (h : scl a b = true) : scal x y = true ∧ decide (x = y) = a.eqv b := by
  cases r1 <;> cases r2 <;> first | (cases h; done) | (refine ⟨rfl, ?_⟩; simp [D.eqv]; done) | (refine ⟨rfl, ?_⟩; simp only [D.eqv]; rw [Bool.eq_iff_iff]; simp; done)
def rEqA (K : Frag) : R2 := fun x y H Q => rEq x y H Q ∨ rEqD K x y H Q
def rNeA (K : Frag) : R2 := fun x y H Q => rNe x y H Q ∨ rNeD K x y H Q
theorem op_eqA (hu : X.A.units + 64 < cLine) : OpR X (compareOp .Eq) (rEqA X.K) := op_eq.or (op_eqD hu)
theorem op_neA (hu : X.A.units + 64 < cLine) : OpR X (compareOp .NotEq) (rNeA X.K) := op_ne.or (op_neD hu)
theorem eqF_inv {ds : List D} {d : D} (h : eqF ds = some d) : ∃ a b, ds = [a, b] ∧ (scl a b = true ∨ (a.shp 16 = true ∧ b.shp 16 = true)) ∧ d = .bl (a.eqv b) := by
  unfold eqF at h
  split at h
  · rename_i a b
    by_cases hz : scl a b = true ∨ (a.shp 16 = true ∧ b.shp 16 = true)
    · rw [if_pos hz] at h
      exact ⟨a, b, rfl, hz, (Option.some.inj h).symm⟩
    · rw [if_neg hz] at h
      cases h
  · cases h
theorem neF_inv {ds : List D} {d : D} (h : neF ds = some d) : ∃ a b, ds = [a, b] ∧ (scl a b = true ∨ (a.shp 16 = true ∧ b.shp 16 = true)) ∧ d = .bl (!a.eqv b) := by
  unfold neF at h
  split at h
  · rename_i a b
    by_cases hz : scl a b = true ∨ (a.shp 16 = true ∧ b.shp 16 = true)
    · rw [if_pos hz] at h
      exact ⟨a, b, rfl, hz, (Option.some.inj h).symm⟩
    · rw [if_neg hz] at h
      cases h
  · cases h
theorem eqF_ok (hK : C.K = X.K) : Ok2 C (rEqA X.K) eqF := fun x y a b d G H Q s t r1 r2 e k => by
  obtain ⟨a', b', hq, hz, hd⟩ := eqF_inv e
  cases hq
  subst hd
  rcases hz with hz | ⟨h1, h2⟩
  · obtain ⟨k1, k2⟩ := scl_eq r1 r2 hz
    exact .inl ⟨k1, by rw [k2]; exact res_flat s t k (.bl _)⟩
  · refine .inr ⟨a.py, b.py, ?_, ?_, shp_shaped (by decide) h1, shp_shaped (by decide) h2, ?_⟩
    · rw [← hK]; exact rep_dp 16 a x h1 (r1.all s)
    · rw [← hK]; exact rep_dp 16 b y h2 (r2.all s)
    · rw [eqv_py]; exact res_flat s t k (.bl _)
theorem neF_ok (hK : C.K = X.K) : Ok2 C (rNeA X.K) neF := fun x y a b d G H Q s t r1 r2 e k => by
  obtain ⟨a', b', hq, hz, hd⟩ := neF_inv e
  cases hq
  subst hd
  rcases hz with hz | ⟨h1, h2⟩
  · obtain ⟨k1, k2⟩ := scl_eq r1 r2 hz
    exact .inl ⟨k1, by rw [k2]; exact res_flat s t k (.bl _)⟩
  · refine .inr ⟨a.py, b.py, ?_, ?_, shp_shaped (by decide) h1, shp_shaped (by decide) h2, ?_⟩
    · rw [← hK]; exact rep_dp 16 a x h1 (r1.all s)
    · rw [← hK]; exact rep_dp 16 b y h2 (r2.all s)
    · rw [eqv_py]; exact res_flat s t k (.bl _)
/-! ### is None -/
def isNF : List D → Option D
  | [.non, .non] => some (.bl true)
  | [_, .non] => some (.bl false)
  | _ => none
def notNF : List D → Option D
  | [.non, .non] => some (.bl false)
  | [_, .non] => some (.bl true)
  | _ => none
theorem isNF_two : Two isNF := fun ds d h => by
  unfold isNF at h
  split at h <;> first | rfl | cases h
theorem notNF_two : Two notNF := fun ds d h => by
  unfold notNF at h
  split at h <;> first | rfl | cases h
theorem isNF_boo : Boo isNF := fun ds d h => by
  unfold isNF at h
  split at h <;> first | (cases h; exact ⟨_, rfl⟩) | cases h
theorem notNF_boo : Boo notNF := fun ds d h => by
  unfold notNF at h
  split at h <;> first | (cases h; exact ⟨_, rfl⟩) | cases h
theorem isNF_ok : Ok2 C (fun x y H Q => y = .non ∧ Q (.bl (decide (x = .non))) H) isNF := fun x y a b d G H Q s t r1 r2 e k => by
  unfold isNF at e
  split at e
  · rename_i hq
    cases hq
    cases e
    cases r1
    cases r2
    exact ⟨rfl, res_flat s t k (.bl _)⟩
  · rename_i a' hn hq
    cases hq
    cases e
    cases r2
    refine ⟨rfl, ?_⟩
    have : decide (x = V.non) = false := by
      cases r1 <;> first | rfl | exact absurd rfl hn
    rw [this]
    exact res_flat s t k (.bl _)
  · cases e
theorem notNF_ok : Ok2 C (fun x y H Q => y = .non ∧ Q (.bl (!decide (x = .non))) H) notNF := fun x y a b d G H Q s t r1 r2 e k => by
  unfold notNF at e
  split at e
  · rename_i hq
    cases hq
    cases e
    cases r1
    cases r2
    exact ⟨rfl, res_flat s t k (.bl _)⟩
  · rename_i a' hn hq
    cases hq
    cases e
    cases r2
    refine ⟨rfl, ?_⟩
    have : decide (x = V.non) = false := by
      cases r1 <;> first | rfl | exact absurd rfl hn
    rw [this]
    exact res_flat s t k (.bl _)
  · cases e
/-! ### places -/
def ixF : List D → Option D
  | [.lst l, .int i] => atI l i
  | [.tup l, .int i] => atI l i
  | [.scr l, .int i] => (atI l i).map D.int
  | [.str s, .int i] => if s.length ≤ 16000000 then (atI s i).map fun c => D.str [c] else none
  | _ => none
theorem ixF_two : Two ixF := fun ds d h => by
  unfold ixF at h
  split at h <;> first | rfl | cases h
theorem atI_rep {K : Frag} {G : Hp} {xs : List V} {ds : List D} {i : Int} {d : D} (r : RepL K G xs ds) (h : atI ds i = some d) : ∃ v, atI xs i = some v ∧ Rep K G v d := by
  unfold atI at h ⊢
  rw [r.length]
  cases q : ixN ds.length i with
  | none => rw [q] at h; cases h
  | some j =>
    rw [q] at h
    obtain ⟨v, h1, h2⟩ := r.getD (show ds[j]? = some d from h)
    exact ⟨v, h1, h2⟩
theorem ixF_ok (hK : C.K = X.K) : Ok2 C (rIx X.K) ixF := fun x y a b d G H Q s t r1 r2 e k => by
  unfold ixF at e
  split at e
  · rename_i l i hq
    cases hq
    cases r2
    cases r1 with
    | lst q rr =>
      obtain ⟨v, h1, h2⟩ := atI_rep rr e
      exact .inl ⟨_, _, i, v, rfl, rfl, SqL.of q, h1, res_flat s t k h2⟩
  · rename_i l i hq
    cases hq
    cases r2
    cases r1 with
    | tup g q rr =>
      obtain ⟨v, h1, h2⟩ := atI_rep rr e
      exact .inr (.inl ⟨_, _, i, v, rfl, rfl, SqT.of q, h1, res_flat s t k h2⟩)
  · rename_i l i hq
    cases hq
    cases r2
    cases r1 with
    | scr q =>
      cases z : atI l i with
      | none => rw [z] at e; cases e
      | some n =>
        rw [z] at e
        cases e
        refine .inl ⟨_, _, i, .int n, rfl, rfl, by rw [← hK]; exact q, ?_, res_flat s t k (.int n)⟩
        unfold atI at z ⊢
        rw [List.length_map]
        cases z2 : ixN l.length i with
        | none => rw [z2] at z; cases z
        | some j =>
          rw [z2] at z
          show (l.map V.int)[j]? = some (.int n)
          rw [List.getElem?_map, show l[j]? = some n from z]
          rfl
  · rename_i z i hq
    cases hq
    cases r2
    cases r1
    split at e
    · rename_i hz
      cases z2 : atI z i with
      | none => rw [z2] at e; cases e
      | some c =>
        rw [z2] at e
        cases e
        exact .inr (.inr ⟨_, i, c, rfl, rfl, by rw [strLen]; exact lim16 hz, by rw [strOf]; exact z2, res_flat s t k (.str [c])⟩)
    · cases e
  · cases e
/-! ### slices -/
def cutL {α : Type} (l : List α) (lo hi : Option Int) : List α := (l.drop (HT.sIx l.length 0 lo)).take (HT.sIx l.length l.length hi - HT.sIx l.length 0 lo)
def slF (d : D) (lo hi : Option Int) : Option D := match d with
  | .lst l => some (.lst (cutL l lo hi))
  | .str s => if s.length ≤ 16000000 then some (.str (cutL s lo hi)) else none
  | .tup l => some (.tup (cutL l lo hi))
  | _ => none
def slLF (d : D) (lo hi : Option Int) : Option D := match d with
  | .lst l => some (.lst (cutL l lo hi))
  | _ => none
def sl3 (f : D → Option Int → Option Int → Option D) : List D → Option D
  | [d, .int i, .int j] => f d (some i) (some j)
  | _ => none
def sl1 (f : D → Option Int → Option Int → Option D) : List D → Option D
  | [d, .int i] => f d (some i) none
  | _ => none
def sl2 (f : D → Option Int → Option Int → Option D) : List D → Option D
  | [d, .int j] => f d none (some j)
  | _ => none
/-- a tuple cut nowhere is itself -/
theorem getItem_tuple_whole {prog : Program} {w : World} {A : Around} {E : Value → Shared → Prop} {s : Shared} {t sl : Addr} {items : Array Value} {vl vu : Value} {lo hi : Option Int} {Q : Value → Shared → Prop} (ht : IsTup s.heap t items) (hs : s.heap.IsSliceOf sl vl vu .none) (pl : IsPart vl lo) (pu : IsPart vu hi)
    (hw : HT.sIx items.size 0 lo = 0 ∧ HT.sIx items.size items.size hi = items.size) (h : Q (.ref t) s) : wpAny (model prog w) A (getItem (.ref t) (.ref sl)) Q E s := by
  obtain ⟨os, hos, hcs, hds⟩ := id hs
  have hTs : s.TypeIs (.ref sl) "slice" := ⟨os, hos, hcs⟩
  unfold getItem
  try with_reducible refine wpAny_holding ?_
  first | refine wpAny_bind (wpAny_pure ?_) | skip
  refine wpAny_bind (wpAny_sequenceKey ht.typeIs (by decide) ?_)
  refine wpAny_bind (wpAny_callSpecial?_slot (name := Str.ofString "__getitem__") ht.typeIs PyProof.Rows.slot_tuple_getitem
    (wpAny_call_entry PyProof.Rows.slot_tuple_getitem ht.typeIs entry_tuple_getitem ?_ (args_tuple_getitem _ _)))
  show wpAny _ _ (Builtin.Tuple.tupleItemsOf (.ref t) >>= _) _ _ s
  refine wpAny_bind (tupleItemsOf_ ht ?_)
  refine wpAny_bind (wpAny_typeOf hTs ?_)
  rw [if_pos (by decide)]
  refine wpAny_bind (HT.sliceApplied_gen hs pl pu ?_)
  show wpAny _ _ (if (((HT.sIx items.size 0 lo : Nat) : Int) == 0 && (1 : Int) == 1 && (HT.sIx items.size items.size hi - HT.sIx items.size 0 lo) == items.size) = true then _ else _) _ _ s
  rw [if_pos (by rw [hw.1, hw.2]; simp)]
  show wpAny _ _ ((typeOf (.ref t) >>= fun ty => pure (ty == .type "tuple")) >>= _) _ _ s
  refine wpAny_bind (wpAny_bind (wpAny_typeOf ht.typeIs (wpAny_pure ?_)))
  rw [if_pos (by decide)]
  first
    | exact wpAny_bind (wpAny_rule (wpAny_pure ⟨_, rfl, wpAny_pure h⟩))
    | exact wpAny_bind (wpAny_rule (wpAny_bind (wpAny_pure (wpAny_pure ⟨_, rfl, wpAny_pure h⟩))))
    | (refine wpAny_bind (wpAny_rule ?_); trace_state; done)
def rSlW (K : Frag) : V → Option Int → Option Int → Hp → VK → Prop := fun x lo hi H Q => ∃ a xs, x = .ref a ∧ SqT K H a xs ∧ (HT.sIx xs.length 0 lo = 0 ∧ HT.sIx xs.length xs.length hi = xs.length) ∧ Q (.ref a) H
theorem sl_tupW : SlR X (rSlW X.K) := by
  intro pins s σ H x v vl vu lo hi sl Q I rx hs pl pu h
  obtain ⟨a, xs, rfl, hx, hw, q⟩ := h
  cases rx
  obtain ⟨its, r, ht, hz⟩ := I.tuple hx
  have hlen : its.toArray.size = xs.length := by rw [List.size_toArray]; exact r.length.symm
  refine ⟨"tuple", _, PyProof.Rows.slot_tuple_getitem.lookup, ht.typeIs, ?_⟩
  exact getItem_tuple_whole ht hs pl pu (by rw [hlen]; exact hw) ⟨.ref a, H, I, rfl, q⟩
def rSlA (K : Frag) : V → Option Int → Option Int → Hp → VK → Prop := fun x lo hi H Q => rSlL K x lo hi H Q ∨ (rSlT K x lo hi H Q ∨ rSlW K x lo hi H Q) ∨ rSlS x lo hi H Q
theorem sl_A : SlR X (rSlA X.K) := sl_list.or ((sl_tup.or sl_tupW).or sl_str)
theorem slF_ok (hK : C.K = X.K) {x : V} {d d' : D} {lo hi : Option Int} {G H : Hp} {Q : VK} (s : Same G H) (t : ∀ P ∈ C.tt, TabG H P) (r : RepT C.K G H x d) (e : slF d lo hi = some d') (k : ∀ v G' H', Grow C G H G' H' → Rep C.K G' v d' → Q v H') : rSlA X.K x lo hi H Q := by
  unfold slF at e
  split at e
  · rename_i l
    cases e
    cases r with
    | lst q rr =>
      refine .inl ⟨_, _, rfl, SqL.of q, fun p hp => known_of_new s t k p _ hp (.lst ?_)⟩
      unfold cutV cutL
      rw [rr.length]
      exact (rr.drop _).take _
  · rename_i z
    split at e
    · rename_i hz
      cases e
      cases r
      refine .inr (.inr ⟨_, rfl, by rw [strLen]; exact lim16 hz, ?_⟩)
      have : cutS ⟨z.toArray⟩ lo hi = ⟨(cutL z lo hi).toArray⟩ := by
        unfold cutS cutL
        rw [strLen, strOf]
      rw [this]
      exact res_flat s t k (.str _)
    · cases e
  · rename_i l
    cases e
    cases r with
    | tup g q rr =>
      by_cases hw : HT.sIx l.length 0 lo = 0 ∧ HT.sIx l.length l.length hi = l.length
      · refine .inr (.inl (.inr ⟨_, _, rfl, SqT.of q, by rw [rr.length]; exact hw, ?_⟩))
        have e0 : cutL l lo hi = l := by
          unfold cutL
          rw [hw.1, hw.2, List.drop_zero, Nat.sub_zero, List.take_length]
        rw [e0] at k
        exact res_flat s t k (.tup g rr)
      · refine .inr (.inl (.inl ⟨_, _, rfl, SqT.of q, by rw [rr.length]; exact hw, fun p hp => ?_⟩))
        have gp := s.free hp
        refine k (.ref p) (upd G p (.tup _)) (upd H p (.tup _)) (grow_new s t hp) (.tup upd_same ?_)
        refine RepL.mono (fun b u hb => by rw [upd_ne (ne_of_none hb gp)]; exact hb) _ _ ?_
        unfold cutV cutL
        rw [rr.length]
        exact (rr.drop _).take _
  · cases e
theorem slLF_ok {x : V} {d d' : D} {lo hi : Option Int} {G H : Hp} {Q : VK} (s : Same G H) (r : RepT C.K G H x d) (e : slLF d lo hi = some d') (k : ∀ p o, H p = none → RepO C.K G o d' → Q (.ref p) (upd H p o)) : rSlA X.K x lo hi H Q := by
  unfold slLF at e
  split at e
  · rename_i l
    cases e
    cases r with
    | lst q rr =>
      refine .inl ⟨_, _, rfl, SqL.of q, fun p hp => k p _ hp (.lst ?_)⟩
      unfold cutV cutL
      rw [rr.length]
      exact (rr.drop _).take _
  · cases e
variable {a b c : Expr} {x y z : Ex} {pos p2 : Pos}
theorem evs_cons {a : Ex} {as : List Ex} {e e' : Env'} {rs : List Rv} (h : evs (a :: as) e = some (rs, e')) : ∃ r e1 rs2, ev a e = some (r, e1) ∧ evs as e1 = some (rs2, e') ∧ rs = r :: rs2 := by
  unfold evs at h
  split at h
  · rename_i r e1 q1
    split at h
    · rename_i rs2 e2 q2
      cases h
      exact ⟨r, e1, rs2, q1, q2, rfl⟩
    · cases h
  · cases h
theorem evs_nil {e e' : Env'} {rs : List Rv} (h : evs [] e = some (rs, e')) : rs = [] ∧ e = e' := by
  unfold evs at h
  cases h
  exact ⟨rfl, rfl⟩
theorem gets_cons {e : Env'} {r : Rv} {rs : List Rv} {ds : List D} (h : gets e (r :: rs) = some ds) : ∃ d ds2, r.get e = some d ∧ gets e rs = some ds2 ∧ ds = d :: ds2 := by
  unfold gets at h
  split at h
  · rename_i d q
    split at h
    · rename_i ds2 q2
      cases h
      exact ⟨d, ds2, q, q2, rfl⟩
    · cases h
  · cases h
theorem gets_nil {e : Env'} {ds : List D} (h : gets e [] = some ds) : ds = [] := by
  unfold gets at h
  cases h
  rfl
theorem ev_two {f : List D → Option D} {e e' : Env'} {r : Rv} (h : ev (.op f [x, y]) e = some (r, e')) : ∃ ra e1 rb d1 d2 d, ev x e = some (ra, e1) ∧ ev y e1 = some (rb, e') ∧ ra.get e' = some d1 ∧ rb.get e' = some d2 ∧ f [d1, d2] = some d ∧ r = .pers d := by
  obtain ⟨rs, ds, d, q1, q2, q3, q4⟩ := ev_op h
  obtain ⟨ra, e1, rs2, h1, h2, rfl⟩ := evs_cons q1
  obtain ⟨rb, e2, rs3, h3, h4, rfl⟩ := evs_cons h2
  obtain ⟨rfl, rfl⟩ := evs_nil h4
  obtain ⟨d1, ds1, g1, g2, rfl⟩ := gets_cons q2
  obtain ⟨d2, ds2, g3, g4, rfl⟩ := gets_cons g2
  cases gets_nil g4
  exact ⟨ra, e1, rb, d1, d2, d, h1, h3, g1, g3, q3, q4⟩
theorem ev_three {f : List D → Option D} {e e' : Env'} {r : Rv} (h : ev (.op f [x, y, z]) e = some (r, e')) : ∃ ra e1 rb e2 rc d1 d2 d3 d, ev x e = some (ra, e1) ∧ ev y e1 = some (rb, e2) ∧ ev z e2 = some (rc, e') ∧ ra.get e' = some d1 ∧ rb.get e' = some d2 ∧ rc.get e' = some d3 ∧ f [d1, d2, d3] = some d ∧ r = .pers d := by
  obtain ⟨rs, ds, d, q1, q2, q3, q4⟩ := ev_op h
  obtain ⟨ra, e1, rs2, h1, h2, rfl⟩ := evs_cons q1
  obtain ⟨rb, e2, rs3, h3, h4, rfl⟩ := evs_cons h2
  obtain ⟨rc, e3, rs4, h5, h6, rfl⟩ := evs_cons h4
  obtain ⟨rfl, rfl⟩ := evs_nil h6
  obtain ⟨d1, ds1, g1, g2, rfl⟩ := gets_cons q2
  obtain ⟨d2, ds2, g3, g4, rfl⟩ := gets_cons g2
  obtain ⟨d3, ds3, g5, g6, rfl⟩ := gets_cons g4
  cases gets_nil g6
  exact ⟨ra, e1, rb, e2, rc, d1, d2, d3, d, h1, h3, h5, g1, g3, g5, q3, q4⟩
theorem RepR.int {K : Frag} {G : Hp} {σ : St} {e e' : Env'} {r : Rv} {v : V} {i : Int} (h : RepR K G σ e r v) (g : r.get e' = some (.int i)) : v = .int i := by
  have := get_flat g rfl
  subst this
  cases h
  rfl
/-- what a slice's rule wants, of known things (E), of new ones (F) -/
theorem ce_sl3 (hK : C.K = X.K) (ha : PE X a (tE C x)) (hb : PE X b (tE C y)) (hc : PE X c (tE C z)) : PE X (.Subscript a (.Slice (some b) (some c) none p2) pos) (tE C (.op (sl3 slF) [x, y, z])) := (pe_slice sl_A ha (po_some hb) (po_some hc)).imp fun σ H Q q => by
  obtain ⟨F, G0, G, pn, e, r, e', R, he, k⟩ := q
  obtain ⟨ra, e1, rb, e2, rc, d1, d2, d3, d, h1, h2, h3, g1, g2, g3, hf, rfl⟩ := ev_three he
  unfold sl3 at hf
  split at hf
  · rename_i dd i j hq
    cases hq
    refine ⟨F, G0, G, pn, e, ra, e1, R, h1, fun v G1 H1 R1 s1 r1 => ⟨F, G0, G1, pn, e1, rb, e2, R1, h2, fun w G2 H2 R2 s2 r2 => ⟨i, r2.int g2, F, G0, G2, pn, e2, rc, e', R2, h3, fun u G3 H3 R3 s3 r3 => ⟨j, r3.int g3, ?_⟩⟩⟩⟩
    have rv := ((r1.mono (s2.trans s3)).env (ev_kept y _ _ _ h2).1).env (ev_kept z _ _ _ h3).1
    exact slF_ok hK R3.gh R3.tabs (R3.get rv g1) hf fun v G' H' g rr => k v G' H' (R3.grow g) (((s1.trans s2).trans s3).trans g.gg) rr
  · cases hf
theorem cf_sl3 (ha : PE X a (tE C x)) (hb : PE X b (tE C y)) (hc : PE X c (tE C z)) : PE X (.Subscript a (.Slice (some b) (some c) none p2) pos) (tF C (.op (sl3 slLF) [x, y, z])) := (pe_slice sl_A ha (po_some hb) (po_some hc)).imp fun σ H Q q => by
  obtain ⟨F, G0, G, pn, e, d0, e', R, he, k⟩ := q
  obtain ⟨ra, e1, rb, e2, rc, d1, d2, d3, d, h1, h2, h3, g1, g2, g3, hf, hd⟩ := ev_three he
  cases hd
  unfold sl3 at hf
  split at hf
  · rename_i dd i j hq
    cases hq
    refine ⟨F, G0, G, pn, e, ra, e1, R, h1, fun v G1 H1 R1 s1 r1 => ⟨F, G0, G1, pn, e1, rb, e2, R1, h2, fun w G2 H2 R2 s2 r2 => ⟨i, r2.int g2, F, G0, G2, pn, e2, rc, e', R2, h3, fun u G3 H3 R3 s3 r3 => ⟨j, r3.int g3, ?_⟩⟩⟩⟩
    have rv := ((r1.mono (s2.trans s3)).env (ev_kept y _ _ _ h2).1).env (ev_kept z _ _ _ h3).1
    exact slLF_ok R3.gh (R3.get rv g1) hf (own_of_new R3 ((s1.trans s2).trans s3) k)
  · cases hf
theorem ce_sl1 (hK : C.K = X.K) (ha : PE X a (tE C x)) (hb : PE X b (tE C y)) : PE X (.Subscript a (.Slice (some b) none none p2) pos) (tE C (.op (sl1 slF) [x, y])) := (pe_slice sl_A ha (po_some hb) po_none).imp fun σ H Q q => by
  obtain ⟨F, G0, G, pn, e, r, e', R, he, k⟩ := q
  obtain ⟨ra, e1, rb, d1, d2, d, h1, h2, g1, g2, hf, rfl⟩ := ev_two he
  unfold sl1 at hf
  split at hf
  · rename_i dd i hq
    cases hq
    refine ⟨F, G0, G, pn, e, ra, e1, R, h1, fun v G1 H1 R1 s1 r1 => ⟨F, G0, G1, pn, e1, rb, e', R1, h2, fun w G2 H2 R2 s2 r2 => ⟨i, r2.int g2, ?_⟩⟩⟩
    have rv := (r1.mono s2).env (ev_kept y _ _ _ h2).1
    exact slF_ok hK R2.gh R2.tabs (R2.get rv g1) hf fun v G' H' g rr => k v G' H' (R2.grow g) ((s1.trans s2).trans g.gg) rr
  · cases hf
theorem cf_sl1 (ha : PE X a (tE C x)) (hb : PE X b (tE C y)) : PE X (.Subscript a (.Slice (some b) none none p2) pos) (tF C (.op (sl1 slLF) [x, y])) := (pe_slice sl_A ha (po_some hb) po_none).imp fun σ H Q q => by
  obtain ⟨F, G0, G, pn, e, d0, e', R, he, k⟩ := q
  obtain ⟨ra, e1, rb, d1, d2, d, h1, h2, g1, g2, hf, hd⟩ := ev_two he
  cases hd
  unfold sl1 at hf
  split at hf
  · rename_i dd i hq
    cases hq
    refine ⟨F, G0, G, pn, e, ra, e1, R, h1, fun v G1 H1 R1 s1 r1 => ⟨F, G0, G1, pn, e1, rb, e', R1, h2, fun w G2 H2 R2 s2 r2 => ⟨i, r2.int g2, ?_⟩⟩⟩
    have rv := (r1.mono s2).env (ev_kept y _ _ _ h2).1
    exact slLF_ok R2.gh (R2.get rv g1) hf (own_of_new R2 (s1.trans s2) k)
  · cases hf
theorem ce_sl2 (hK : C.K = X.K) (ha : PE X a (tE C x)) (hb : PE X b (tE C y)) : PE X (.Subscript a (.Slice none (some b) none p2) pos) (tE C (.op (sl2 slF) [x, y])) := (pe_slice sl_A ha po_none (po_some hb)).imp fun σ H Q q => by
  obtain ⟨F, G0, G, pn, e, r, e', R, he, k⟩ := q
  obtain ⟨ra, e1, rb, d1, d2, d, h1, h2, g1, g2, hf, rfl⟩ := ev_two he
  unfold sl2 at hf
  split at hf
  · rename_i dd i hq
    cases hq
    refine ⟨F, G0, G, pn, e, ra, e1, R, h1, fun v G1 H1 R1 s1 r1 => ⟨F, G0, G1, pn, e1, rb, e', R1, h2, fun w G2 H2 R2 s2 r2 => ⟨i, r2.int g2, ?_⟩⟩⟩
    have rv := (r1.mono s2).env (ev_kept y _ _ _ h2).1
    exact slF_ok hK R2.gh R2.tabs (R2.get rv g1) hf fun v G' H' g rr => k v G' H' (R2.grow g) ((s1.trans s2).trans g.gg) rr
  · cases hf
theorem cf_sl2 (ha : PE X a (tE C x)) (hb : PE X b (tE C y)) : PE X (.Subscript a (.Slice none (some b) none p2) pos) (tF C (.op (sl2 slLF) [x, y])) := (pe_slice sl_A ha po_none (po_some hb)).imp fun σ H Q q => by
  obtain ⟨F, G0, G, pn, e, d0, e', R, he, k⟩ := q
  obtain ⟨ra, e1, rb, d1, d2, d, h1, h2, g1, g2, hf, hd⟩ := ev_two he
  cases hd
  unfold sl2 at hf
  split at hf
  · rename_i dd i hq
    cases hq
    refine ⟨F, G0, G, pn, e, ra, e1, R, h1, fun v G1 H1 R1 s1 r1 => ⟨F, G0, G1, pn, e1, rb, e', R1, h2, fun w G2 H2 R2 s2 r2 => ⟨i, r2.int g2, ?_⟩⟩⟩
    have rv := (r1.mono s2).env (ev_kept y _ _ _ h2).1
    exact slLF_ok R2.gh (R2.get rv g1) hf (own_of_new R2 (s1.trans s2) k)
  · cases hf
end
end Mi

/-! Built-in functions, methods, displays. -/
namespace Mi
open PySem PySem.Spec PyProof.Rows L2 GxR
section
variable {X : Cx} {C : Cfg}
/-! ### len -/
def lenF : List D → Option D
  | [.str s] => if s.length ≤ 16000000 then some (.int s.length) else none
  | [.lst l] => some (.int l.length)
  | [.tup l] => some (.int l.length)
  | [.scr l] => some (.int l.length)
  | _ => none
theorem lenF_ok (hK : C.K = X.K) : OkN C (fun xs H Q => ∃ x n, xs = [x] ∧ LenV X.K x H n ∧ Q (.int n) H) lenF := fun vs ds d G H Q s t r e k => by
  unfold lenF at e
  split at e
  · rename_i z
    split at e
    · rename_i hz
      cases e
      obtain ⟨v, rfl, rv⟩ := repTs_one r
      cases rv
      exact ⟨_, z.length, rfl, ⟨by rw [strLen]; exact lim16 hz, (strLen z).symm⟩, res_flat s t k (.int _)⟩
    · cases e
  · rename_i l
    cases e
    obtain ⟨v, rfl, rv⟩ := repTs_one r
    cases rv with
    | lst q rr => exact ⟨_, l.length, rfl, .inl ⟨_, SqL.of q, rr.length.symm⟩, res_flat s t k (.int _)⟩
  · rename_i l
    cases e
    obtain ⟨v, rfl, rv⟩ := repTs_one r
    cases rv with
    | tup g q rr => exact ⟨_, l.length, rfl, .inr ⟨_, SqT.of q, rr.length.symm⟩, res_flat s t k (.int _)⟩
  · rename_i l
    cases e
    obtain ⟨v, rfl, rv⟩ := repTs_one r
    cases rv with
    | scr q => exact ⟨_, l.length, rfl, .inl ⟨_, by rw [← hK]; exact q, (List.length_map ..).symm⟩, res_flat s t k (.int _)⟩
  · cases e
/-! ### numbers -/
def intF : List D → Option D
  | [.int i] => some (.int i)
  | [.bl b] => some (.int (if b then 1 else 0))
  | _ => none
theorem intF_ok : OkN C (fun xs H Q => (∃ i, xs = [.int i] ∧ Q (.int i) H) ∨ ∃ k, xs = [.bl k] ∧ Q (.int (if k then 1 else 0)) H) intF := fun vs ds d G H Q s t r e k => by
  unfold intF at e
  split at e
  · cases e
    obtain ⟨v, rfl, rv⟩ := repTs_one r
    cases rv
    exact .inl ⟨_, rfl, res_flat s t k (.int _)⟩
  · cases e
    obtain ⟨v, rfl, rv⟩ := repTs_one r
    cases rv
    exact .inr ⟨_, rfl, res_flat s t k (.int _)⟩
  · cases e
def absF : List D → Option D
  | [.int i] => some (.int (if i < 0 then -i else i))
  | _ => none
theorem absF_ok : OkN C (fun xs H Q => ∃ i, xs = [.int i] ∧ Q (.int (if i < 0 then -i else i)) H) absF := fun vs ds d G H Q s t r e k => by
  unfold absF at e
  split at e
  · cases e
    obtain ⟨v, rfl, rv⟩ := repTs_one r
    cases rv
    exact ⟨_, rfl, res_flat s t k (.int _)⟩
  · cases e
def max2F : List D → Option D
  | [.int i, .int j] => some (.int (if j > i then j else i))
  | _ => none
def min2F : List D → Option D
  | [.int i, .int j] => some (.int (if j < i then j else i))
  | _ => none
theorem max2F_ok : OkN C (fun xs H Q => ∃ i j, xs = [.int i, .int j] ∧ Q (.int (if j > i then j else i)) H) max2F := fun vs ds d G H Q s t r e k => by
  unfold max2F at e
  split at e
  · cases e
    obtain ⟨v, w, rfl, rv, rw'⟩ := repTs_two r
    cases rv
    cases rw'
    exact ⟨_, _, rfl, res_flat s t k (.int _)⟩
  · cases e
theorem min2F_ok : OkN C (fun xs H Q => ∃ i j, xs = [.int i, .int j] ∧ Q (.int (if j < i then j else i)) H) min2F := fun vs ds d G H Q s t r e k => by
  unfold min2F at e
  split at e
  · cases e
    obtain ⟨v, w, rfl, rv, rw'⟩ := repTs_two r
    cases rv
    cases rw'
    exact ⟨_, _, rfl, res_flat s t k (.int _)⟩
  · cases e
/-! ### tuple(..), list(..) -/
def tupleF : List D → Option D
  | [.lst l] => some (.tup l)
  | [.tup l] => some (.tup l)
  | _ => none
theorem tupleF_ok : OkN C (fun xs H Q => ∃ p ys, xs = [.ref p] ∧ ((SqL X.K H p ys ∧ ∀ l, H l = none → Q (.ref l) (upd H l (.tup ys))) ∨ (SqT X.K H p ys ∧ Q (.ref p) H))) tupleF := fun vs ds d G H Q s t r e k => by
  unfold tupleF at e
  split at e
  · rename_i l
    cases e
    obtain ⟨v, rfl, rv⟩ := repTs_one r
    cases rv with
    | lst q rr =>
      refine ⟨_, _, rfl, .inl ⟨SqL.of q, fun p hp => ?_⟩⟩
      have gp := s.free hp
      exact k (.ref p) (upd G p (.tup _)) (upd H p (.tup _)) (grow_new s t hp) (.tup upd_same (rr.mono fun b u hb => by rw [upd_ne (ne_of_none hb gp)]; exact hb))
  · rename_i l
    cases e
    obtain ⟨v, rfl, rv⟩ := repTs_one r
    cases rv with
    | tup g q rr => exact ⟨_, _, rfl, .inr ⟨SqT.of q, res_flat s t k (.tup g rr)⟩⟩
  · cases e
def listF1 : List D → Option D
  | [.lst l] => some (.lst l)
  | [.tup l] => some (.lst l)
  | _ => none
theorem listF1_ok : OkNF C (fun xs H Q => ∃ p ys, xs = [.ref p] ∧ (SqL X.K H p ys ∨ SqT X.K H p ys) ∧ ∀ l, H l = none → Q (.ref l) (upd H l (.lst ys))) listF1 := fun vs ds d G H Q s t r e k => by
  unfold listF1 at e
  split at e
  · cases e
    obtain ⟨v, rfl, rv⟩ := repTs_one r
    cases rv with
    | lst q rr => exact ⟨_, _, rfl, .inl (SqL.of q), fun p hp => k p _ hp (.lst rr)⟩
  · cases e
    obtain ⟨v, rfl, rv⟩ := repTs_one r
    cases rv with
    | tup g q rr => exact ⟨_, _, rfl, .inr (SqT.of q), fun p hp => k p _ hp (.lst rr)⟩
  · cases e
/-! ### displays -/
def lstF : List D → Option D := fun ds => if ds.length ≤ 16000000 then some (.lst ds) else none
def tupF1 : List D → Option D := fun ds => if ds.length ≤ 16000000 then some (.tup ds) else none
theorem lstF_ok : OkMF C (fun xs H Q => xs.length ≤ sizeLine ∧ ∀ p, H p = none → Q (.ref p) (upd H p (.lst xs))) lstF := fun vs ds d G H Q s t r e k => by
  unfold lstF at e
  split at e
  · rename_i hz
    cases e
    exact ⟨by rw [r.length]; exact lim16 hz, fun p hp => k p _ hp (.lst r)⟩
  · cases e
theorem tupF1_ok : OkM C (fun xs H Q => xs.length ≤ sizeLine ∧ ∀ p, H p = none → Q (.ref p) (upd H p (.tup xs))) tupF1 := fun vs ds d G H Q s t r e k => by
  unfold tupF1 at e
  split at e
  · rename_i hz
    cases e
    refine ⟨by rw [r.length]; exact lim16 hz, fun p hp => ?_⟩
    have gp := s.free hp
    exact k (.ref p) (upd G p (.tup _)) (upd H p (.tup _)) (grow_new s t hp) (.tup upd_same (r.mono fun b u hb => by rw [upd_ne (ne_of_none hb gp)]; exact hb))
  · cases e
variable {es : List Expr} {xs : List Ex} {a b c o : Expr} {x y z : Ex} {pos p apos : Pos}
theorem ce_tup {n : Nat} (h : PA X es (tA C xs)) : PE X (.Tuple es n pos) (tE C (.mk tupF1 xs)) := (pe_tup h).imp fun σ H Q q => tE_mk tupF1_ok q
theorem cf_lst (h : PA X es (tA C xs)) : PE X (.List es pos) (tF C (.mk lstF xs)) := (pe_lst h).imp fun σ H Q q => tF_mk lstF_ok q
theorem ce_lst (h : PA X es (tA C xs)) : PE X (.List es pos) (tE C (.mk lstF xs)) := cf_ce (cf_lst h) mk_pers
/-- from a rule for new things to one for known things -/
theorem cf_op {a : Expr} {f : List D → Option D} (h : PE X a (tF C (.op f xs))) : PE X a (tE C (.op f xs)) := cf_ce h op_pers
theorem cf_lcE {a : Expr} {g : List D → Option (List D)} {vs : List Nat} {tg : Tg} {cs : List Ex} (h : PE X a (tF C (.lc g xs vs tg cs x))) : PE X a (tE C (.lc g xs vs tg cs x)) := cf_ce h lc_pers
/-! ### isinstance -/
def D.ty : D → String
  | .non => "NoneType"
  | .bl _ => "bool"
  | .int _ => "int"
  | .str _ => "str"
  | .tup _ => "tuple"
  | .lst _ => "list"
  | .scr _ => "list"
  | .dic _ _ => "dict"
/-- the classes asked by number: int str bool tuple list dict -/
inductive Ty where
  | int | str | bool | tuple | list | dict
def Ty.nm : Ty → String
  | .int => "int"
  | .str => "str"
  | .bool => "bool"
  | .tuple => "tuple"
  | .list => "list"
  | .dict => "dict"
def isT (d : D) : Ty → Bool
  | .int => (match d with
    | .int _ => true
    | .bl _ => true
    | _ => false)
  | .bool => (match d with
    | .bl _ => true
    | _ => false)
  | .str => (match d with
    | .str _ => true
    | _ => false)
  | .tuple => (match d with
    | .tup _ => true
    | _ => false)
  | .list => (match d with
    | .lst _ => true
    | .scr _ => true
    | _ => false)
  | .dict => (match d with
    | .dic _ _ => true
    | _ => false)
def isiF (ts : List Ty) : List D → Option D
  | [.dic (.non :: _) _] => none
  | [d] => some (.bl (ts.any fun t => isT d t))
  | _ => none
theorem isiF_boo {ts : List Ty} : Boo (isiF ts) := fun ds d h => by
  unfold isiF at h
  split at h
  · cases h
  · cases h; exact ⟨_, rfl⟩
  · cases h
theorem isiF_inv {ts : List Ty} {d0 d : D} (h : isiF ts [d0] = some d) : d = .bl (ts.any fun t => isT d0 t) ∧ ∀ ks vs, d0 ≠ .dic (.non :: ks) vs := by
  unfold isiF at h
  split at h
  · cases h
  · rename_i e1 e2
    cases e2
    cases h
    exact ⟨rfl, fun ks vs z => e1 ks vs (by rw [z])⟩
  · rename_i e1 e2
    exact absurd rfl (e2 _)
theorem kitOf (d : D) (t : Ty) : kitB d.ty t.nm = some (isT d t) := by
  cases d <;> cases t <;> first | decide +kernel | rfl
theorem tyx_sql {K : Frag} {H : Hp} {a : Addr} {xs : List V} (h : SqL K H a xs) : TyX K H (.ref a) (.type "list") := by
  rcases h with (h | ⟨o, h⟩) | ⟨o, its, n, h1, h2, _⟩
  · exact .base (.lst h)
  · exact .base (.frz h)
  · exact .kList h1 h2
theorem tyx_of {K : Frag} {G H : Hp} {v : V} {d : D} (r : RepT K G H v d) (hd : ∀ ks vs, d ≠ .dic (.non :: ks) vs) : TyX K H v (.type d.ty) := by
  cases r with
  | non => exact .base .non
  | bl b => exact .base (.bl b)
  | int i => exact .base (.int i)
  | str s => exact .base (.str _)
  | tup g q rr => exact .base (.tup q)
  | lst q rr => exact .base (.lst q)
  | scr q => exact tyx_sql q
  | dK q e rr =>
    rcases q with q | ⟨o, q⟩
    · exact .base (.dK q)
    · exact .fDict q
  | dT q e rr => exact absurd (by rw [e]) (hd _ _)
/-- isinstance(a, T) -/
theorem ce_isi (hK : C.K = X.K) {T : Ty} (h : ∀ {te : TE}, PE X a te → PE X o (tCB (rIsi X.K) (tCons te (tCons (tC (.ty T.nm)) tNil)))) (ha : PE X a (tE C x)) : PE X o (tE C (.op (isiF [T]) [x])) := (h ha).imp fun σ H Q q => by
  obtain ⟨F, G0, G, pn, e, r, e', R, he, k⟩ := q
  obtain ⟨rs, ds, d, q1, q2, q3, rfl⟩ := ev_op he
  obtain ⟨r1, e1, rs2, h1, h2, rfl⟩ := evs_cons q1
  obtain ⟨rfl, rfl⟩ := evs_nil h2
  obtain ⟨d1, ds1, g1, g2, rfl⟩ := gets_cons q2
  cases gets_nil g2
  obtain ⟨rfl, hd⟩ := isiF_inv q3
  refine ⟨F, G0, G, pn, e, r1, _, R, h1, fun v G1 H1 R1 s1 rv => ?_⟩
  refine ⟨v, .ty T.nm, .type d1.ty, .type T.nm, isT d1 T, rfl, .ty _, ?_, kit_ty (kitOf d1 T), ?_⟩
  · rw [← hK]; exact tyx_of (R1.get rv g1) hd
  · have := k (.bl _) G1 H1 R1 s1 (.bl _)
    simpa using this
theorem kitAny_of {K : Frag} (d : D) : ∀ ts : List Ty, PySem.W.kitAny K (.type d.ty) (ts.map fun t => Value.type t.nm) = some (ts.any fun t => isT d t)
  | [] => rfl
  | t :: ts => by
    refine kitAny_cons (b := isT d t) (kit_ty (kitOf d t)) (fun hb => ?_) (fun hb => ?_)
    · rw [kitAny_of d ts, List.any_cons, hb]
      rfl
    · rw [List.any_cons, hb]
      rfl
theorem cls_all : ∀ ts : List Ty, Paired ClsV (ts.map fun t => V.ty t.nm) (ts.map fun t => Value.type t.nm)
  | [] => .nil
  | t :: ts => .cons (.ty _) (cls_all ts)
/-- isinstance(a, (T, U)) -/
theorem ce_isi2 (hK : C.K = X.K) {T U : Ty} (h : ∀ {te : TE}, PE X a te → PE X o (tCB (rIsiT X.K) (tCons te (tCons (tTup (tCons (tC (.ty T.nm)) (tCons (tC (.ty U.nm)) tNil))) tNil)))) (ha : PE X a (tE C x)) : PE X o (tE C (.op (isiF [T, U]) [x])) := (h ha).imp fun σ H Q q => by
  obtain ⟨F, G0, G, pn, e, r, e', R, he, k⟩ := q
  obtain ⟨rs, ds, d, q1, q2, q3, rfl⟩ := ev_op he
  obtain ⟨r1, e1, rs2, h1, h2, rfl⟩ := evs_cons q1
  obtain ⟨rfl, rfl⟩ := evs_nil h2
  obtain ⟨d1, ds1, g1, g2, rfl⟩ := gets_cons q2
  cases gets_nil g2
  obtain ⟨rfl, hd⟩ := isiF_inv q3
  refine ⟨F, G0, G, pn, e, r1, _, R, h1, fun v G1 H1 R1 s1 rv => ⟨by show 2 ≤ sizeLine; decide, fun p hp => ?_⟩⟩
  have R2 := R1.grow (grow_own (o := .tup [V.ty T.nm, V.ty U.nm]) R1.gh R1.tabs hp)
  refine ⟨v, p, _, .type d1.ty, [Value.type T.nm, Value.type U.nm], (([T, U] : List Ty).any fun t => isT d1 t), rfl, upd_same, cls_all [T, U], ?_, kitAny_of d1 [T, U], k (.bl _) G1 _ R2 s1 (.bl _)⟩
  rw [← hK]
  exact tyx_of (R2.get rv g1) hd
/-! ### methods of texts -/
theorem get_str {r : Rv} {K : Frag} {G : Hp} {σ : St} {e e' : Env'} {v : V} {s : List Nat} (h : RepR K G σ e r v) (g : r.get e' = some (.str s)) : v = .str ⟨s.toArray⟩ := by
  have := get_flat g rfl
  subst this
  cases h
  rfl
/-- a method of a text with arguments -/
theorem ce_strm {r : V → List V → Hp → VK → Prop} {f : List D → Option D} (ok : OkN C (fun vs H Q => ∃ v us, vs = v :: us ∧ r v us H Q) f) (hf : ∀ ds d, f ds = some d → ∃ s ds2, ds = .str s :: ds2)
    (h : ∀ {te : TE} {t : TA}, PE X o te → PA X es t → PE X c (tBM X.K "str" r te t)) (ho : PE X o (tE C x)) (ha : PA X es (tA C xs)) : PE X c (tE C (.op f (x :: xs))) := (h ho ha).imp fun σ H Q q => by
  have q0 := q
  obtain ⟨F, G0, G, pn, e, rr, e', R, he, k⟩ := q
  obtain ⟨rs, ds, d, q1, q2, q3, rfl⟩ := ev_op he
  obtain ⟨r1, e1, rs2, h1, h2, rfl⟩ := evs_cons q1
  obtain ⟨d1, ds1, g1, g2, rfl⟩ := gets_cons q2
  obtain ⟨s, ds2, z⟩ := hf _ _ q3
  cases z
  refine ⟨F, G0, G, pn, e, r1, e1, R, h1, fun v G1 H1 R1 s1 rv => ?_⟩
  have hv := get_str rv g1
  subst hv
  refine ⟨rfl, F, G0, G1, pn, e1, rs2, e', R1, h2, fun us G2 H2 R2 s2 ru => ?_⟩
  obtain ⟨v, us', e3, h3⟩ := ok (.str ⟨s.toArray⟩ :: us) (.str s :: ds1) d G2 H2 Q R2.gh R2.tabs (.cons (.str s) (R2.gets ru g2)) q3 fun v G3 H3 g rw' => k v G3 H3 (R2.grow g) ((s1.trans s2).trans g.gg) rw'
  cases e3
  exact h3
/-- the codes of texts -/
def strsOf : List D → Option (List (List Nat))
  | [] => some []
  | .str s :: ds => (strsOf ds).map fun l => s :: l
  | _ :: _ => none
theorem strsOf_map : ∀ {ds : List D} {l : List (List Nat)}, strsOf ds = some l → ds = l.map D.str
  | [], l, h => by cases h; rfl
  | .str s :: ds, l, h => by
    unfold strsOf at h
    cases q : strsOf ds with
    | none => rw [q] at h; cases h
    | some m =>
      rw [q] at h
      cases h
      rw [strsOf_map q] <;> rfl
  | .non :: ds, l, h => by unfold strsOf at h; cases h
  | .bl _ :: ds, l, h => by unfold strsOf at h; cases h
  | .int _ :: ds, l, h => by unfold strsOf at h; cases h
  | .tup _ :: ds, l, h => by unfold strsOf at h; cases h
  | .lst _ :: ds, l, h => by unfold strsOf at h; cases h
  | .dic _ _ :: ds, l, h => by unfold strsOf at h; cases h
  | .scr _ :: ds, l, h => by unfold strsOf at h; cases h
def joinL' (sep : List Nat) : List (List Nat) → List Nat
  | [] => []
  | [p] => p
  | p :: q :: r => p ++ (sep ++ joinL' sep (q :: r))
def joinF : List D → Option D
  | [.str sep, .lst l] => (match strsOf l with
    | some ss => if (ss.map List.length).sum + ss.length * sep.length ≤ 16000000 then some (.str (joinL' sep ss)) else none
    | none => none)
  | [.str sep, .tup l] => (match strsOf l with
    | some ss => if (ss.map List.length).sum + ss.length * sep.length ≤ 16000000 then some (.str (joinL' sep ss)) else none
    | none => none)
  | _ => none
theorem join_is (sep : List Nat) (ss : List (List Nat)) : Txt.join ⟨sep.toArray⟩ (ss.map fun s => (⟨s.toArray⟩ : Str)) = ⟨(joinL' sep ss).toArray⟩ := by
  rw [TL.join_eq]
  have h : TL.tl (Str.join ⟨sep.toArray⟩ (ss.map fun s => (⟨s.toArray⟩ : Str))) = joinL' sep ss := by
    rw [TL.tl_join]
    have e : (ss.map fun s => (⟨s.toArray⟩ : Str)).map TL.tl = ss := by
      rw [List.map_map]
      have : (TL.tl ∘ fun (s : List Nat) => (⟨s.toArray⟩ : Str)) = id := by
        funext s
        exact strOf s
      rw [this, List.map_id]
    have e3 : TL.tl (⟨sep.toArray⟩ : Str) = sep := strOf sep
    rw [e, e3]
    have : ∀ l : List (List Nat), TL.joinL sep l = joinL' sep l := by
      intro l
      induction l with
      | nil => rfl
      | cons p l ih =>
        cases l with
        | nil => rfl
        | cons q r =>
          show p ++ (sep ++ TL.joinL sep (q :: r)) = p ++ (sep ++ joinL' sep (q :: r))
          rw [ih]
    exact this ss
  generalize Str.join ⟨sep.toArray⟩ (ss.map fun s => (⟨s.toArray⟩ : Str)) = z at h ⊢
  obtain ⟨c⟩ := z
  have h2 : c.toList = joinL' sep ss := h
  rw [← h2]
theorem sum_len (ss : List (List Nat)) : ((ss.map fun s => (⟨s.toArray⟩ : Str)).map (·.length)).sum = (ss.map List.length).sum := by
  rw [List.map_map]
  exact congrArg List.sum (List.map_congr_left fun s _ => strLen s)
theorem joinF_str : ∀ ds d, joinF ds = some d → ∃ s ds2, ds = .str s :: ds2 := fun ds d h => by
  unfold joinF at h
  split at h
  · exact ⟨_, _, rfl⟩
  · exact ⟨_, _, rfl⟩
  · cases h
theorem joinF_ok (hK : C.K = X.K) : OkN C (fun vs H Q => ∃ v us, vs = v :: us ∧ (∃ a p, ∃ ys : List Str, v = .str a ∧ us = [.ref p] ∧ (SqL X.K H p (ys.map V.str) ∨ SqT X.K H p (ys.map V.str)) ∧
    (ys.map (·.length)).sum + ys.length * a.length ≤ 16777216 ∧ Q (.str (Txt.join a ys)) H)) joinF := fun vs ds d G H Q s t r e k => by
  unfold joinF at e
  split at e
  · rename_i sep l
    split at e
    · rename_i ss hs
      split at e
      · rename_i hz
        cases e
        obtain ⟨v, w, rfl, rv, rw'⟩ := repTs_two r
        cases rv
        cases rw' with
        | lst q rr =>
          rw [strsOf_map hs] at rr
          refine ⟨_, _, rfl, _, _, ss.map fun s => ⟨s.toArray⟩, rfl, rfl, .inl (SqL.of (by rw [q, rr.strs])), ?_, ?_⟩
          · rw [sum_len, List.length_map, strLen]; omega
          · rw [join_is]; exact res_flat s t k (.str _)
      · cases e
    · cases e
  · rename_i sep l
    split at e
    · rename_i ss hs
      split at e
      · rename_i hz
        cases e
        obtain ⟨v, w, rfl, rv, rw'⟩ := repTs_two r
        cases rv
        cases rw' with
        | tup g q rr =>
          rw [strsOf_map hs] at rr
          refine ⟨_, _, rfl, _, _, ss.map fun s => ⟨s.toArray⟩, rfl, rfl, .inr (SqT.of (by rw [q, rr.strs])), ?_, ?_⟩
          · rw [sum_len, List.length_map, strLen]; omega
          · rw [join_is]; exact res_flat s t k (.str _)
      · cases e
    · cases e
  · cases e
/-! ### one sign's places in a text -/
/-- the last place of c, from place i on; acc: the last one before -/
def rfindA (c : Nat) : List Nat → Nat → Int → Int
  | [], _, acc => acc
  | a :: s, i, acc => rfindA c s (i + 1) (if a = c then (i : Int) else acc)
def rfindL (s : List Nat) (c : Nat) : Int := rfindA c s 0 (-1)
def findA (c : Nat) : List Nat → Nat → Int
  | [], _ => -1
  | a :: s, i => if a = c then (i : Int) else findA c s (i + 1)
def findL (s : List Nat) (c : Nat) : Int := findA c s 0
theorem at_one (s : List Nat) (c i : Nat) : PySem.StrLaws.At (⟨s.toArray⟩ : Str) ⟨#[c]⟩ (⟨s.toArray⟩ : Str).length i ↔ s[i]? = some c := by
  rw [TL.at_iff (y := ⟨#[c]⟩) (by simp)]
  unfold TL.pre
  have e3 : TL.tl (⟨s.toArray⟩ : Str) = s := strOf s
  rw [e3]
  have e : ((s.drop i).take 1 == [c]) = true ↔ s[i]? = some c := by
    have h : s[i]? = (s.drop i)[0]? := by rw [List.getElem?_drop]; rfl
    rw [h]
    cases q : s.drop i with
    | nil => simp
    | cons a b => simp
  exact e
theorem rfindA_spec (c : Nat) : ∀ (s : List Nat) (i : Nat) (acc : Int), ((∀ j : Nat, s[j]? ≠ some c) ∧ rfindA c s i acc = acc) ∨ ∃ j : Nat, s[j]? = some c ∧ (∀ k : Nat, j < k → s[k]? ≠ some c) ∧ rfindA c s i acc = ((i + j : Nat) : Int)
  | [], i, acc => .inl ⟨fun j => by simp, rfl⟩
  | a :: s, i, acc => by
    unfold rfindA
    rcases rfindA_spec c s (i + 1) (if a = c then (i : Int) else acc) with ⟨h1, h2⟩ | ⟨j, h1, h2, h3⟩
    · by_cases hc : a = c
      · rw [if_pos hc] at h2 ⊢
        refine .inr ⟨0, by simp [hc], fun k hk => ?_, by rw [h2]; rfl⟩
        cases k with
        | zero => exact absurd hk (Nat.lt_irrefl 0)
        | succ k => exact h1 k
      · rw [if_neg hc] at h2 ⊢
        refine .inl ⟨fun j => ?_, h2⟩
        cases j with
        | zero => simpa using hc
        | succ j => exact h1 j
    · refine .inr ⟨j + 1, h1, fun k hk => ?_, by rw [h3]; congr 1; omega⟩
      cases k with
      | zero => exact absurd hk (Nat.not_lt_zero _)
      | succ k => exact h2 k (by omega)
theorem rfind_is (s : List Nat) (c : Nat) : Txt.rfind ⟨s.toArray⟩ ⟨#[c]⟩ = rfindL s c := by
  unfold Txt.rfind rfindL
  rcases StrLaws.last_spec ⟨s.toArray⟩ ⟨#[c]⟩ with ⟨h1, h2⟩ | ⟨i, h1, h2, h3⟩
  · rw [h1]
    rcases rfindA_spec c s 0 (-1) with ⟨_, k2⟩ | ⟨j, k1, _⟩
    · exact k2.symm
    · exact absurd ((at_one s c j).mpr k1) (h2 j)
  · rw [h1]
    have e1 := (at_one s c i).mp h2
    rcases rfindA_spec c s 0 (-1) with ⟨k1, _⟩ | ⟨j, k1, k2, k3⟩
    · exact absurd e1 (k1 i)
    · have : i = j := by
        rcases Nat.lt_trichotomy i j with z | z | z
        · exact absurd ((at_one s c j).mpr k1) (h3 j z)
        · exact z
        · exact absurd e1 (k2 i z)
      rw [k3, this]
      show (j : Int) = ((0 + j : Nat) : Int)
      rw [Nat.zero_add]
theorem count_none (s : List Nat) (c : Nat) (h : ∀ k : Nat, s[k]? ≠ some c) : s.count c = 0 := by
  rw [List.count_eq_zero]
  intro hm
  obtain ⟨k, hk, e⟩ := List.mem_iff_getElem.mp hm
  exact h k (by rw [List.getElem?_eq_getElem hk, e])
theorem chain_count (s : List Nat) (c : Nat) : ∀ (cuts : List Nat) (a f : Nat), StrLaws.ChainG ⟨s.toArray⟩ ⟨#[c]⟩ (⟨s.toArray⟩ : Str).length a cuts f → (∀ k, f ≤ k → ¬ StrLaws.At ⟨s.toArray⟩ ⟨#[c]⟩ (⟨s.toArray⟩ : Str).length k) → cuts.length = (s.drop a).count c
  | [], a, f, h, hn => by
    have e : f = a := h
    subst e
    refine (count_none _ c fun k => ?_).symm
    rw [List.getElem?_drop]
    exact fun z => hn (f + k) (Nat.le_add_right _ _) ((at_one s c _).mpr z)
  | c0 :: r, a, f, h, hn => by
    obtain ⟨h1, h2, h3, h4⟩ := h
    have ih := chain_count s c r (c0 + 1) f h4 hn
    have e2 := (at_one s c c0).mp h2
    have hlt : c0 < s.length := (List.getElem?_eq_some_iff.mp e2).1
    have e3 : s.drop a = (s.drop a).take (c0 - a) ++ (c :: s.drop (c0 + 1)) := by
      have e4 : (s.drop a).drop (c0 - a) = c :: s.drop (c0 + 1) := by
        rw [List.drop_drop, show a + (c0 - a) = c0 by omega, List.drop_eq_getElem_cons hlt]
        congr 1
        exact (List.getElem?_eq_some_iff.mp e2).2
      rw [← e4, List.take_append_drop]
    have e5 : ((s.drop a).take (c0 - a)).count c = 0 := count_none _ c fun k => by
      by_cases hk : k < c0 - a
      · rw [List.getElem?_take_of_lt hk, List.getElem?_drop]
        exact fun z => h3 (a + k) (by omega) (by omega) ((at_one s c _).mpr z)
      · rw [List.getElem?_eq_none (by rw [List.length_take]; omega)]
        exact fun z => nomatch z
    rw [e3, List.count_append, e5, List.count_cons_self, ← ih, List.length_cons]
    omega
theorem count_is (s : List Nat) (c : Nat) : Txt.count ⟨s.toArray⟩ ⟨#[c]⟩ = (s.count c : Nat) := by
  unfold Txt.count
  obtain ⟨f, h1, h2⟩ := StrLaws.occ_tight ⟨s.toArray⟩ ⟨#[c]⟩ (by show 1 ≤ 1; exact Nat.le_refl 1)
  rw [chain_count s c _ 0 f h1 h2]
  rfl
def rfindF : List D → Option D
  | [.str s, .str [c]] => some (.int (rfindL s c))
  | _ => none
def countF : List D → Option D
  | [.str s, .str [c]] => some (.int (s.count c : Nat))
  | _ => none
theorem rfindF_str : ∀ ds d, rfindF ds = some d → ∃ s ds2, ds = .str s :: ds2 := fun ds d h => by
  unfold rfindF at h
  split at h
  · exact ⟨_, _, rfl⟩
  · cases h
theorem countF_str : ∀ ds d, countF ds = some d → ∃ s ds2, ds = .str s :: ds2 := fun ds d h => by
  unfold countF at h
  split at h
  · exact ⟨_, _, rfl⟩
  · cases h
theorem rfindF_ok : OkN C (fun vs H Q => ∃ v us, vs = v :: us ∧ (∃ a b, v = .str a ∧ us = [.str b] ∧ Q (.int (Txt.rfind a b)) H)) rfindF := fun vs ds d G H Q s t r e k => by
  unfold rfindF at e
  split at e
  · rename_i z c
    cases e
    obtain ⟨v, w, rfl, rv, rw'⟩ := repTs_two r
    cases rv
    cases rw'
    exact ⟨_, _, rfl, _, _, rfl, rfl, by rw [rfind_is]; exact res_flat s t k (.int _)⟩
  · cases e
theorem countF_ok : OkN C (fun vs H Q => ∃ v us, vs = v :: us ∧ (∃ a b, v = .str a ∧ us = [.str b] ∧ Q (.int (Txt.count a b)) H)) countF := fun vs ds d G H Q s t r e k => by
  unfold countF at e
  split at e
  · rename_i z c
    cases e
    obtain ⟨v, w, rfl, rv, rw'⟩ := repTs_two r
    cases rv
    cases rw'
    exact ⟨_, _, rfl, _, _, rfl, rfl, by rw [count_is]; exact res_flat s t k (.int _)⟩
  · cases e
/-! ### in -/
def D.flt : D → Bool
  | .non => true
  | .bl _ => true
  | .int _ => true
  | .str _ => true
  | _ => false
def memF (neg : Bool) : List D → Option D
  | [.str [c], .str s] => some (.bl (neg != s.contains c))
  | [x, .lst l] => if x.shp 16 = true ∧ (D.lst l).shp 16 = true then some (.bl (neg != l.any fun y => y.eqv x)) else none
  | [x, .tup l] => if x.flt = true ∧ l.all D.flt = true then some (.bl (neg != l.any fun y => y.eqv x)) else none
  | _ => none
theorem memF_two {n : Bool} : Two (memF n) := fun ds d h => by
  unfold memF at h
  split at h <;> first | rfl | cases h
theorem memF_boo {n : Bool} : Boo (memF n) := fun ds d h => by
  unfold memF at h
  split at h
  · cases h; exact ⟨_, rfl⟩
  · split at h
    · cases h; exact ⟨_, rfl⟩
    · cases h
  · split at h
    · cases h; exact ⟨_, rfl⟩
    · cases h
  · cases h
end
end Mi

/-! in; global numbers; a generator expression over a text's signs; a comprehension that is stored. -/
namespace Mi
open PySem PySem.Spec PyProof.Rows L2 GxR
section
variable {X : Cx} {C : Cfg} {F G0 G G' H H' : Hp} {pn : Option (Nat × Addr)} {σ : St} {e e' : Env'} {v : V} {d : D} {a b c o : Expr} {x y z : Ex} {xs : List Ex} {es : List Expr} {pos p p2 : Pos}
/-! ### in -/
theorem opImp {f : Value → Value → Sem Value} {r r' : R2} (h : OpR X f r) (k : ∀ x y H Q, r' x y H Q → r x y H Q) : OpR X f r' := fun pins s σ H x y v u Q I rx ry q => h pins s σ H x y v u Q I rx ry (k _ _ _ _ q)
def rMem (K : Frag) (neg : Bool) : R2 := fun x y H Q => (∃ (c : Nat) (z : Str), x = .str ⟨#[c]⟩ ∧ y = .str z ∧ Q (.bl (neg != decide (c ∈ z.cps.toList))) H) ∨ (∃ d ds, Dp K H x d ∧ Dp K H y (.list ds) ∧ SeqAt.shaped d = true ∧ SeqAt.shaped (.list ds) = true ∧ Q (.bl (neg != ds.any fun z => PyData.eqv z d)) H) ∨ rIn K neg x y H Q
theorem op_inA (hu : X.A.units + 65 < cLine) : OpR X (compareOp .In) (rMem X.K false) := opImp (op_in_sign.or ((op_inD hu).or op_in_seq)) fun _ _ _ _ h => by
  rcases h with ⟨c, z, h1, h2, q⟩ | ⟨d, ds, h1, h2, h3, h4, q⟩ | h
  · exact .inl ⟨c, z, h1, h2, by simpa using q⟩
  · exact .inr (.inl ⟨d, ds, h1, h2, h3, h4, by simpa using q⟩)
  · exact .inr (.inr h)
theorem op_notInA (hu : X.A.units + 65 < cLine) : OpR X (compareOp .NotIn) (rMem X.K true) := opImp (op_notIn_sign.or ((op_notInD hu).or op_notIn_seq)) fun _ _ _ _ h => by
  rcases h with ⟨c, z, h1, h2, q⟩ | ⟨d, ds, h1, h2, h3, h4, q⟩ | h
  · exact .inl ⟨c, z, h1, h2, by simpa using q⟩
  · exact .inr (.inl ⟨d, ds, h1, h2, h3, h4, by simpa using q⟩)
  · exact .inr (.inr h)
theorem any_py (x : D) : ∀ l : List D, (D.pyL l).any (fun z => PyData.eqv z x.py) = l.any fun y => y.eqv x
  | [] => by simp [D.pyL]
  | y :: l => by simp only [D.pyL, List.any_cons]; rw [eqv_py, any_py x l]
theorem flt_V {K : Frag} {G : Hp} {v : V} {d : D} (r : Rep K G v d) (h : d.flt = true) : flatV v = true := by
  cases r <;> first | rfl | cases h
theorem flt_eq {K : Frag} {G G' : Hp} {v w : V} {d e : D} (r : Rep K G v d) (h : d.flt = true) (r' : Rep K G' w e) (h' : e.flt = true) : eqV v w = d.eqv e := by
  cases r <;> cases r' <;> first | (cases h; done) | (cases h'; done) | (simp [D.eqv, eqV]; done) | (simp only [D.eqv, eqV]; rw [Bool.eq_iff_iff]; simp; done)
theorem flt_all {K : Frag} {G G' : Hp} {w : V} {e : D} (r' : Rep K G' w e) (h' : e.flt = true) : ∀ {vs : List V} {ds : List D}, RepL K G vs ds → ds.all D.flt = true → vs.all flatV = true ∧ inV w vs = ds.any fun y => y.eqv e
  | _, _, .nil, _ => ⟨rfl, rfl⟩
  | _, _, .cons a b, h => by
    rw [List.all_cons, Bool.and_eq_true] at h
    obtain ⟨h1, h2⟩ := flt_all r' h' b h.2
    refine ⟨by rw [List.all_cons, flt_V a h.1, h1]; rfl, ?_⟩
    unfold inV at h2 ⊢
    rw [List.any_cons, List.any_cons, h2, flt_eq a h.1 r' h']
theorem memF_inv {n : Bool} {ds : List D} {d : D} (h : memF n ds = some d) : (∃ c s, ds = [.str [c], .str s] ∧ d = .bl (n != s.contains c)) ∨ (∃ x l, ds = [x, .lst l] ∧ x.shp 16 = true ∧ (D.lst l).shp 16 = true ∧ d = .bl (n != l.any fun y => y.eqv x)) ∨
    (∃ x l, ds = [x, .tup l] ∧ x.flt = true ∧ l.all D.flt = true ∧ d = .bl (n != l.any fun y => y.eqv x)) := by
  unfold memF at h
  split at h
  · rename_i c s
    cases h
    exact .inl ⟨c, s, rfl, rfl⟩
  · rename_i x l
    split at h
    · rename_i hz
      cases h
      exact .inr (.inl ⟨x, l, rfl, hz.1, hz.2, rfl⟩)
    · cases h
  · rename_i x l
    split at h
    · rename_i hz
      cases h
      exact .inr (.inr ⟨x, l, rfl, hz.1, hz.2, rfl⟩)
    · cases h
  · cases h
theorem memF_ok {n : Bool} (hK : C.K = X.K) : Ok2 C (rMem X.K n) (memF n) := fun x y a b d G H Q s t r1 r2 e k => by
  rcases memF_inv e with ⟨c, z, hq, rfl⟩ | ⟨x', l, hq, h1, h2, rfl⟩ | ⟨x', l, hq, h1, h2, rfl⟩
  · cases hq
    cases r1
    cases r2
    refine .inl ⟨c, _, rfl, rfl, ?_⟩
    have e2 : decide (c ∈ (⟨z.toArray⟩ : Str).cps.toList) = z.contains c := by
      simp [List.contains_iff_mem]
    rw [e2]
    exact res_flat s t k (.bl _)
  · cases hq
    refine .inr (.inl ⟨a.py, D.pyL l, ?_, ?_, shp_shaped (by decide) h1, shp_shaped (by decide) h2, ?_⟩)
    · rw [← hK]; exact rep_dp 16 a x h1 (r1.all s)
    · rw [← hK]
      have := rep_dp 16 (.lst l) y h2 (r2.all s)
      simpa only [D.py] using this
    · rw [any_py]; exact res_flat s t k (.bl _)
  · cases hq
    cases r2 with
    | tup g q r =>
      rename_i ad ys
      have rx : Rep C.K H x a := r1.all s
      obtain ⟨k1, k2⟩ := flt_all rx h1 r h2
      refine .inr (.inr ⟨_, ys, rfl, .inr (SqT.of q), flt_V rx h1, k1, ?_⟩)
      rw [k2]
      have e3 : (if n = true then !(l.any fun y => y.eqv a) else l.any fun y => y.eqv a) = (n != l.any fun y => y.eqv a) := by cases n <;> simp
      rw [e3]
      exact res_flat s t k (.bl _)
/-! ### a global number -/
theorem ce_globI {nm : Str} {i : Int} (hg : Gl X nm) (hm : ∃ t, X.mg nm = some (.int i t)) (hd : (nm == ("__debug__" : Str)) = false := by decide) : PE X (.Name nm pos) (tE C (.cst (.int i))) := by
  obtain ⟨t, ht⟩ := hm
  exact ce_c (v := .int i) (pe_glob (v := .int i) hg ht ⟨t, rfl⟩ hd) fun _ => .int i
/-! ### all, any over a text's signs -/
/-- the element: x in 'k' -/
theorem elt_in {prog : Program} {w : World} {scope : Scope} {x k : Str} {j : Nat} {p1 p2 p3 : Pos} (hk : scope.kind = .function) (hl : scope.names.lookup x = some .local) (hd : (x == ("__debug__" : Str)) = false := by decide) :
    EltP prog w scope x (.Compare (.Name x p1) [.In] [.Constant (.str k) j p2] p3) (fun c => decide (c ∈ k.cps.toList)) := by
  intro cenv A' E' c t s₂ m₂ hs hn hm
  refine wpAny_Compare1 ?_
  refine wpAny_Name (wpAny_loadName_local (by rw [hs]; exact hk) (show cenv.scope.names.lookup x = some .local by rw [hs]; exact hl) hn hm ?_) hd
  refine Calls.Constant_str ?_
  refine PyProof.Rows.in_str ?_
  exact ⟨congrArg Value.bool (PySem.StrLaws.found_one k c), keeps_tok _ _⟩
def allF (pb : Nat → Bool) : List D → Option D
  | [.str s] => some (.bl (s.all pb))
  | _ => none
def anyF (pb : Nat → Bool) : List D → Option D
  | [.str s] => some (.bl (s.any pb))
  | _ => none
theorem allF_boo {pb : Nat → Bool} : Boo (allF pb) := fun ds d h => by
  unfold allF at h
  split at h <;> first | (cases h; exact ⟨_, rfl⟩) | cases h
theorem anyF_boo {pb : Nat → Bool} : Boo (anyF pb) := fun ds d h => by
  unfold anyF at h
  split at h <;> first | (cases h; exact ⟨_, rfl⟩) | cases h
theorem grow_tab {P : Addr} {G H1 H2 : Hp} (gh : Same G H1) (tb : ∀ P ∈ C.tt, TabG H1 P) (hP : P ∈ C.tt) (gP : G P = none) (ht : Tabbed P H1 H2) : Grow C G H1 G H2 := by
  refine ⟨Same.refl G, fun b u h => ?_, fun q hq hqt => ht.2 q (fun z => hqt (by rw [z]; exact hP)), fun _ _ _ => rfl, fun P' hP' => ?_⟩
  · rw [ht.2 b (fun z => by rw [z, gP] at h; cases h)]
    exact gh b u h
  · by_cases z : P' = P
    · rw [z]; exact ht.1
    · obtain ⟨ps, h1, h2⟩ := tb P' hP'
      exact ⟨ps, by rw [ht.2 P' z]; exact h1, h2⟩
theorem ce_allS {P : Addr} {pb : Nat → Bool} (h : ∀ {te : TE}, PE X a te → PE X o (tAllS P pb te)) (hP : P ∈ C.tt) (ha : PE X a (tE C x)) : PE X o (tE C (.op (allF pb) [x])) := (h ha).imp fun σ H Q q => by
  obtain ⟨F, G0, G, pn, e, r, e', R, he, k⟩ := q
  obtain ⟨rs, ds, d, q1, q2, q3, rfl⟩ := ev_op he
  obtain ⟨r1, e1, rs2, h1, h2, rfl⟩ := evs_cons q1
  obtain ⟨rfl, rfl⟩ := evs_nil h2
  obtain ⟨d1, ds1, g1, g2, rfl⟩ := gets_cons q2
  cases gets_nil g2
  unfold allF at q3
  split at q3
  · rename_i s hs
    cases hs
    cases q3
    refine ⟨F, G0, G, pn, e, r1, _, R, h1, fun v G1 H1 R1 s1 rv => ⟨⟨s.toArray⟩, get_str rv g1, (R1.tb P hP).1, fun H2 ht => ?_⟩⟩
    have := k (.bl (s.all pb)) G1 H2 (R1.grow (grow_tab R1.gh R1.tabs hP (R1.tb P hP).2.1 ht)) s1 (.bl _)
    simpa using this
  · cases q3
theorem ce_anyS {P : Addr} {pb : Nat → Bool} (h : ∀ {te : TE}, PE X a te → PE X o (tAnyS P pb te)) (hP : P ∈ C.tt) (ha : PE X a (tE C x)) : PE X o (tE C (.op (anyF pb) [x])) := (h ha).imp fun σ H Q q => by
  obtain ⟨F, G0, G, pn, e, r, e', R, he, k⟩ := q
  obtain ⟨rs, ds, d, q1, q2, q3, rfl⟩ := ev_op he
  obtain ⟨r1, e1, rs2, h1, h2, rfl⟩ := evs_cons q1
  obtain ⟨rfl, rfl⟩ := evs_nil h2
  obtain ⟨d1, ds1, g1, g2, rfl⟩ := gets_cons q2
  cases gets_nil g2
  unfold anyF at q3
  split at q3
  · rename_i s hs
    cases hs
    cases q3
    refine ⟨F, G0, G, pn, e, r1, _, R, h1, fun v G1 H1 R1 s1 rv => ⟨⟨s.toArray⟩, get_str rv g1, (R1.tb P hP).1, fun H2 ht => ?_⟩⟩
    have := k (.bl (s.any pb)) G1 H2 (R1.grow (grow_tab R1.gh R1.tabs hP (R1.tb P hP).2.1 ht)) s1 (.bl _)
    simpa using this
  · cases q3
/-! ### what is walked, whatever it is -/
theorem piOr {tg it : Expr} {t t' : TI} (h : PI X tg it t) (h' : PI X tg it t') : PI X tg it (fun σ H R => t σ H R ∨ t' σ H R) := ⟨fun pins s σ H R I q => q.elim (h.run pins s σ H R I) (h'.run pins s σ H R I)⟩
theorem ci_any {tg : Expr} (hK : C.K = X.K) (ha : PE X a (tE C x)) : PI X tg a (tI C itemsF [x]) := (piOr (ci_list hK ha) (piOr (ci_tup hK ha) (ci_str ha))).imp fun σ H R q => by
  obtain ⟨F, G0, G, pn, e, rs, e1, ds, e2, items, R', q1, q2, q3, k⟩ := q
  unfold itemsF at q3
  split at q3
  · exact .inl ⟨F, G0, G, pn, e, rs, e1, _, e2, items, R', q1, q2, q3, k⟩
  · exact .inr (.inl ⟨F, G0, G, pn, e, rs, e1, _, e2, items, R', q1, q2, q3, k⟩)
  · exact .inr (.inr ⟨F, G0, G, pn, e, rs, e1, _, e2, items, R', q1, q2, q3, k⟩)
  · cases q3
theorem blkE {N N2 : List Str} {sc sc2 scope : Scope} {own : List (Str × Nat)} (hN : N = N2) (hs : sc = sc2) (h : BlkOk N2 sc2 scope own) : BlkOk N sc scope own := by
  rw [hN, hs]; exact h
theorem hu65 {k : Nat} {A : Around} (hr : Room k A) : A.units + 65 < cLine := by have := hr.un; omega
theorem genS_of {env : Env} {scope : Scope} {x : Str} (h1 : scope.kind = .function) (h2 : scope.isCoroutine = false) (h3 : ∀ y ∈ scope.names, y.2 ≠ .cell) (h4 : scope.names.lookup (".0" : Str) = some NameKind.local) (h5 : scope.names.lookup x = some .local)
    (h6 : ∀ y ∈ scope.names, y.2 ≠ .free) : GenS env scope x := ⟨h1, h2, h3, h4, h5, fun y hy e => absurd e (h6 y hy)⟩
/-! ### a promise that promises nothing -/
theorem fnI_none {P : Program} {w : World} {K : Frag} {mg : Str → Option Value} {base : Heap} {f : Addr} {fd : FuncData} {ps : List Str} {k n : Nat} : FnOk P w K mg base CX0 k f fd ps (spI C n fun _ => none) := by
  refine ⟨fun vs H Q E h => ?_, fun A outer s H args us vs Q E _ _ _ _ h => ?_⟩
  · obtain ⟨_, _, _, _, _, _, _, z, _⟩ := h
    cases z
  · obtain ⟨_, _, _, _, _, _, _, z, _⟩ := h
    cases z
/-! ### a comprehension that is stored -/
variable {elt tgx iter : Expr} {ifs : List Expr} {scope : Scope} {own : List (Str × Nat)} {g : List D → Option (List D)} {tg : Tg} {cs : List Ex} {spos py : Pos} {i : Nat} {nm : Str}
theorem cs_setLcO (hc : X.calm = true) (hN : X.N.Nodup) (hy : X.N[i]? = some nm) (hyl : X.env.scope.names.lookup nm = some .local) (hsw : swapsWith (.ListComp elt [⟨tgx, iter, ifs, 0⟩] scope pos) (some (.Name nm py)) spos.line X.env = pure true) (hi : PI X tgx iter (tI C g xs)) (ok : BlkOk X.N X.env.scope scope own)
    (hg : ∀ (s : Shared) (H : Hp) (Cc : Addr) (cl : List (Str × Addr)) (fp : List Addr), PG (X.blk s H scope (compEnvC scope cl Cc X.env) fp) tgx (tG C tg)) (ht : ∀ (s : Shared) (H : Hp) (Cc : Addr) (cl : List (Str × Addr)) (fp : List Addr), PTs (X.blk s H scope (compEnvC scope cl Cc X.env) fp) ifs (tTs C cs))
    (he : ∀ (s : Shared) (H : Hp) (Cc : Addr) (cl : List (Str × Addr)) (fp : List Addr), PE (X.blk s H scope (compEnvC scope cl Cc X.env) fp) elt (tE C x)) (hsl : (tg.slots.all fun i => (own.map (·.2)).contains i) = true) (hs : ∀ x, foldedSetIterable iter X.env x = pure x := by intro _; rfl) :
    PS X (.Assign [.Name nm py] (.ListComp elt [⟨tgx, iter, ifs, 0⟩] scope pos) spos) (tS C (.setO i (.lc g xs (own.map (·.2)) tg cs x))) := (ps_setLc hc hN hy hyl hsw hi ok hg ht he hs).imp fun D σ H q => setO_of (fun _ _ _ h => tLc_of (fun i hi => by
  have := List.all_eq_true.mp hsl i hi
  exact List.contains_iff_mem.mp this) h) q
theorem cs_setLc (hc : X.calm = true) (hN : X.N.Nodup) (hy : X.N[i]? = some nm) (hyl : X.env.scope.names.lookup nm = some .local) (hsw : swapsWith (.ListComp elt [⟨tgx, iter, ifs, 0⟩] scope pos) (some (.Name nm py)) spos.line X.env = pure true) (hi : PI X tgx iter (tI C g xs)) (ok : BlkOk X.N X.env.scope scope own)
    (hg : ∀ (s : Shared) (H : Hp) (Cc : Addr) (cl : List (Str × Addr)) (fp : List Addr), PG (X.blk s H scope (compEnvC scope cl Cc X.env) fp) tgx (tG C tg)) (ht : ∀ (s : Shared) (H : Hp) (Cc : Addr) (cl : List (Str × Addr)) (fp : List Addr), PTs (X.blk s H scope (compEnvC scope cl Cc X.env) fp) ifs (tTs C cs))
    (he : ∀ (s : Shared) (H : Hp) (Cc : Addr) (cl : List (Str × Addr)) (fp : List Addr), PE (X.blk s H scope (compEnvC scope cl Cc X.env) fp) elt (tE C x)) (hsl : (tg.slots.all fun i => (own.map (·.2)).contains i) = true) (hs : ∀ x, foldedSetIterable iter X.env x = pure x := by intro _; rfl) :
    PS X (.Assign [.Name nm py] (.ListComp elt [⟨tgx, iter, ifs, 0⟩] scope pos) spos) (tS C (.set (.nm i) (.lc g xs (own.map (·.2)) tg cs x))) := (ps_setLc hc hN hy hyl hsw hi ok hg ht he hs).imp fun D σ H q => set_of (fun _ _ _ h => tLc_of (fun i hi => by
  have := List.all_eq_true.mp hsl i hi
  exact List.contains_iff_mem.mp this) (tF_tE h lc_pers)) gName_of q
end
end Mi

/-! The end. -/
namespace Mi
open PySem PySem.Spec PyProof.Rows L2 GxR
theorem tc_of {K : Frag} {nm qual : Str} {params : Arguments} {body : List Stmt} {scope : Scope} {fd' : FuncData} (F : FunD K nm qual params body scope [] [] (He.ga K nm) fd') :
    ∀ (oc : Value) (od : Option Addr) (osl : Array (Option Value)) (fd : FuncData), K.lookup (He.ga K nm) = some ⟨oc, od, .func fd, osl⟩ → fd.code = .ref (He.codeOf K (nm, none)) := by
  obtain ⟨oc0, od0, dV, kV, doc, pm, an, cdv, ct, osl0, rfl, lk, hcd, _, _⟩ := F.ex
  intro oc od osl fd h
  rw [lk] at h
  cases h
  obtain ⟨c, e⟩ := He.codeIn_ref hcd
  rw [He.codeOf_eq (p := (nm, none)) lk e]
  exact e
theorem law_at {l : PySem.W.OpenLaw} {w : World} {K : Frag} {h : Heap} {mg : Str → Option Value} {fa : List He.Fa} {fn : List He.DefD} {ts : List He.Tab} {tf : List He.Defn} {exb : Frag → Bool} {k : Nat} {x : Str} {f : Addr} {fd : FuncData} {φ : List D → Option D}
    {nm qual : Str} {params : Arguments} {body : List Stmt} {scope : Scope} {Fx : Heap → Prop}
    (c : He.SaysX fa fn ts tf exb w h K) (KX : K.In h) (F : FunD K nm qual params body scope [] [] f fd) (hb : ∀ (s : Shared) (u : Value), BindsTo s fd ⟨[u], []⟩ [(x, u)])
    (hZ : ∀ base : Heap, (∀ p ∈ tf.map (He.cT K), TabB base mg p.1 p.2) → Fx base)
    (hF : ∀ base : Heap, Fx base → FnOk l.prog w K mg base CX0 k f fd [x] (spI ⟨K, (tf.map (He.cT K)).map (·.2)⟩ 1 φ)) (hl : ∀ ns : List Int, ns.length ≤ 63 → (∀ z ∈ ns, Builtin.Int.intBits z ≤ 1048576) → φ [.scr ns] = some (.bl true)) :
    LamX.LawAtS l w K CX0 k 63 x mg f h := by
  have mem : ∀ p ∈ tf.map (He.cT K), ∃ q ∈ tf, He.cT K q = p := fun p hp => List.mem_map.mp hp
  refine ⟨fd, tf.map (He.cT K), spI ⟨K, (tf.map (He.cT K)).map (·.2)⟩ 1 φ, fun p hp => ?_, fun p hp => ?_, fun p hp => ?_, hb, ?_, fun base _ _ hT => hF base (hZ base fun p hp => ⟨(hT p hp).code, (hT p hp).bm, (hT p hp).gP⟩)⟩
  · obtain ⟨q, hq, rfl⟩ := mem p hp
    exact c.empty q hq
  · obtain ⟨q, hq, rfl⟩ := mem p hp
    exact c.out q hq
  · obtain ⟨q, hq, rfl⟩ := mem p hp
    exact PySem.W.codeHd_of_K KX (c.hd q hq)
  · intro H a ns hlen hbits hH hS
    have tab : ∀ P ∈ (tf.map (He.cT K)).map (·.2), H P = some (.tbl #[]) := fun P hP => by
      obtain ⟨p, hp, rfl⟩ := List.mem_map.mp hP
      exact hH p hp
    let G : Hp := fun b => if b ∈ (tf.map (He.cT K)).map (·.2) then none else H b
    have gn : ∀ {b : Addr}, b ∉ (tf.map (He.cT K)).map (·.2) → G b = H b := fun hb => if_neg hb
    have gt : ∀ {b : Addr}, b ∈ (tf.map (He.cT K)).map (·.2) → G b = none := fun hb => if_pos hb
    refine ⟨G, [.scr ns], .bl true, rfl, fun b o e => ?_, fun P hP => ⟨⟨#[], tab P hP, trivial⟩, gt hP⟩, .cons (.scr ?_) .nil, hl ns hlen hbits, fun v G' H' _ r => by cases r; rfl⟩
    · by_cases hb : b ∈ (tf.map (He.cT K)).map (·.2)
      · rw [gt hb] at e; cases e
      · rw [gn hb] at e; exact e
    · rcases hS with (hS | ⟨o, hS⟩) | hS
      · exact .inl (.inl (by rw [gn (fun z => by rw [tab a z] at hS; cases hS)]; exact hS))
      · exact .inl (.inr ⟨o, by rw [gn (fun z => by rw [tab a z] at hS; cases hS)]; exact hS⟩)
      · exact .inr hS
end Mi

/-! Plain laws of the loops. -/
namespace Mi
open PySem PySem.Spec PyProof.Rows L2 GxR
/-! ### loops -/
theorem forLoop_cons {f : D → Env' → Option Out} {d : D} {ds : List D} {e e1 : Env'} (h : f d e = some (.nx e1)) : forLoop f (d :: ds) e = forLoop f ds e1 := by
  rw [forLoop, h]
theorem forLoop_ret {f : D → Env' → Option Out} {d v : D} {ds : List D} {e e1 : Env'} (h : f d e = some (.rt v e1)) : forLoop f (d :: ds) e = some (.rt v e1) := by
  rw [forLoop, h]
/-- step by step, an invariant of what is left -/
theorem forLoop_inv {f : D → Env' → Option Out} (Inv : List D → Env' → Prop) (step : ∀ d ds e, Inv (d :: ds) e → ∃ e1, f d e = some (.nx e1) ∧ Inv ds e1) : ∀ (items : List D) (e : Env'), Inv items e → ∃ e1, forLoop f items e = some (.nx e1) ∧ Inv [] e1
  | [], e, h => ⟨e, rfl, h⟩
  | d :: ds, e, h => by
    obtain ⟨e1, h1, h2⟩ := step d ds e h
    obtain ⟨e2, h3, h4⟩ := forLoop_inv Inv step ds e1 h2
    exact ⟨e2, by rw [forLoop_cons h1]; exact h3, h4⟩
/-- an accumulator -/
theorem forLoop_fold {α β : Type} {f : D → Env' → Option Out} (E : α → Env') (I : β → D) (g : α → β → α) (step : ∀ a b, f (I b) (E a) = some (.nx (E (g a b)))) : ∀ (l : List β) (a : α), forLoop f (l.map I) (E a) = some (.nx (E (l.foldl g a)))
  | [], a => rfl
  | b :: l, a => by
    rw [List.map_cons, forLoop_cons (step a b), List.foldl_cons]
    exact forLoop_fold E I g step l (g a b)
/-- .. where the items keep a promise -/
theorem forLoop_foldP {α β : Type} {f : D → Env' → Option Out} (E : α → Env') (I : β → D) (g : α → β → α) (P : β → Prop) (S : α → Prop) (keep : ∀ a b, P b → S a → S (g a b)) (step : ∀ a b, P b → S a → f (I b) (E a) = some (.nx (E (g a b)))) :
    ∀ (l : List β) (a : α), (∀ b ∈ l, P b) → S a → forLoop f (l.map I) (E a) = some (.nx (E (l.foldl g a))) ∧ S (l.foldl g a)
  | [], a, _, h => ⟨rfl, h⟩
  | b :: l, a, hl, h => by
    have hb := hl b List.mem_cons_self
    rw [List.map_cons, forLoop_cons (step a b hb h), List.foldl_cons]
    exact forLoop_foldP E I g P S keep step l (g a b) (fun c hc => hl c (List.mem_cons_of_mem _ hc)) (keep a b hb h)
theorem lcLoop_inv {f : D → Env' → Option (List D × Env')} (Inv : Env' → Prop) (P : D → Prop) (step : ∀ d e, Inv e → ∃ y e1, f d e = some ([y], e1) ∧ Inv e1 ∧ P y) : ∀ (items : List D) (e : Env'), Inv e → ∃ ys e1, lcLoop f items e = some (ys, e1) ∧ Inv e1 ∧ ys.length = items.length ∧ ∀ y ∈ ys, P y
  | [], e, h => ⟨[], e, rfl, h, rfl, fun y hy => by cases hy⟩
  | d :: ds, e, h => by
    obtain ⟨y, e1, h1, h2, h3⟩ := step d e h
    obtain ⟨ys, e2, k1, k2, k3, k4⟩ := lcLoop_inv Inv P step ds e1 h2
    refine ⟨y :: ys, e2, ?_, k2, by rw [List.length_cons, List.length_cons, k3], fun z hz => ?_⟩
    · rw [lcLoop, h1]
      show (match lcLoop f ds e1 with
        | some (zs, e2) => some ([y] ++ zs, e2)
        | none => none) = _
      rw [k1] <;> rfl
    · rcases List.mem_cons.mp hz with rfl | hz
      · exact h3
      · exact k4 z hz
/-- each item's answer, the environment the same behind each turn -/
theorem lcLoop_map {β : Type} {f : D → Env' → Option (List D × Env')} (I : β → D) (g : β → List D) (e : Env') : ∀ (l : List β), (∀ b ∈ l, f (I b) e = some (g b, e)) → lcLoop f (l.map I) e = some (l.flatMap g, e)
  | [], _ => rfl
  | b :: l, h => by
    rw [List.map_cons, lcLoop, h b List.mem_cons_self]
    show (match lcLoop f (l.map I) e with
        | some (zs, e2) => some (g b ++ zs, e2)
        | none => none) = _
    rw [lcLoop_map I g e l fun c hc => h c (List.mem_cons_of_mem _ hc)] <;> rfl
theorem ev_lc_of {g : List D → Option (List D)} {as : List Ex} {vs : List Nat} {tg : Tg} {cs : List Ex} {elt : Ex} {e e1 e2 e7 : Env'} {rs : List Rv} {ds items ys : List D} (h1 : evs as e = some (rs, e1)) (h2 : settles e1 rs = some (ds, e2)) (h3 : g ds = some items) (h4 : softE e2 vs = true)
    (h5 : lcLoop (lcTurn tg vs (fun e => evt cs e) (fun e => ev elt e)) items (wipeE e2 vs) = some (ys, e7)) (h6 : ys.length ≤ 16000000) : ev (.lc g as vs tg cs elt) e = some (.pers (.lst ys), backE e2 e7 vs) := by
  unfold ev
  simp only [h1, h2, h3, h4, if_true, h5, h6]
theorem ex_for_of {g : List D → Option (List D)} {as : List Ex} {tg : Tg} {b : S} {e e1 e2 : Env'} {rs : List Rv} {ds items : List D} {o : Out} (h1 : evs as e = some (rs, e1)) (h2 : settles e1 rs = some (ds, e2)) (h3 : g ds = some items)
    (h4 : forLoop (fun d e => match tg.bind d e with
          | some e3 => ex b e3
          | none => none) items e2 = some o) : ex (.forr g as tg b) e = some o := by
  unfold ex
  simp only [h1, h2, h3]
  exact h4
/-! ### places -/
theorem atI_nat {α : Type} (l : List α) (i : Nat) : atI l (i : Int) = l[i]? := by
  unfold atI ixN
  rw [if_pos (Int.natCast_nonneg i)]
  by_cases h : i < l.length
  · rw [if_pos (Int.ofNat_lt.mpr h)]
    simp
  · rw [if_neg (by omega)]
    rw [List.getElem?_eq_none (by omega)]
    rfl
theorem atI0 {α : Type} (a : α) (l : List α) : atI (a :: l) 0 = some a := atI_nat (a :: l) 0
theorem atI1 {α : Type} (a b : α) (l : List α) : atI (a :: b :: l) 1 = some b := atI_nat (a :: b :: l) 1
theorem atI2 {α : Type} (a b c : α) (l : List α) : atI (a :: b :: c :: l) 2 = some c := atI_nat (a :: b :: c :: l) 2
theorem atI3 {α : Type} (a b c d : α) (l : List α) : atI (a :: b :: c :: d :: l) 3 = some d := atI_nat (a :: b :: c :: d :: l) 3
theorem atI_pos {α : Type} {l : List α} {i : Int} (h0 : 0 ≤ i) (h1 : i < l.length) : atI l i = some (l[i.toNat]'(by omega)) := by
  obtain ⟨n, rfl⟩ := Int.eq_ofNat_of_zero_le h0
  show atI l (n : Int) = _
  rw [atI_nat, List.getElem?_eq_getElem (by omega)]
  rfl
theorem cut_to {α : Type} (l : List α) (n : Nat) (h : n ≤ l.length) : cutL l none (some (n : Int)) = l.take n := by
  unfold cutL
  have e1 : HT.sIx l.length 0 none = 0 := rfl
  have e2 : HT.sIx l.length l.length (some (n : Int)) = n := by
    rw [HT.sIx_nat]; omega
  rw [e1, e2, List.drop_zero, Nat.sub_zero]
theorem cut_from {α : Type} (l : List α) (n : Nat) : cutL l (some (n : Int)) none = l.drop n := by
  unfold cutL
  have e1 : HT.sIx l.length l.length none = l.length := rfl
  have e2 : HT.sIx l.length 0 (some (n : Int)) = min n l.length := HT.sIx_nat _ _ _
  rw [e1, e2]
  by_cases h : n ≤ l.length
  · rw [Nat.min_eq_left h, List.take_of_length_le (by rw [List.length_drop]; exact Nat.le_refl _)]
  · rw [Nat.min_eq_right (by omega), List.drop_eq_nil_of_le (Nat.le_refl _), List.drop_eq_nil_of_le (by omega), List.take_nil]
end Mi

/-! sorted. -/
namespace Mi
open PySem PySem.Spec PyProof.Rows L2 GxR
/-! ### sorted -/
mutual
/-- of one kind, place by place -/
def D.same : D → D → Bool
  | .bl _, .bl _ => true
  | .int _, .int _ => true
  | .str _, .str _ => true
  | .tup xs, .tup ys => D.sameL xs ys
  | .lst xs, .lst ys => D.sameL xs ys
  | _, _ => false
def D.sameL : List D → List D → Bool
  | [], [] => true
  | x :: xs, y :: ys => D.same x y && D.sameL xs ys
  | _, _ => false
end
mutual
theorem same_alike : ∀ (x a b : D), x.same a = true → x.same b = true → W.alike a.py b.py = true
  | .bl _, a, b, h1, h2 => by
    cases a <;> first | (simp [D.same] at h1; done) | skip
    cases b <;> first | (simp [D.same] at h2; done) | skip
    simp [D.py, W.alike]
  | .int _, a, b, h1, h2 => by
    cases a <;> first | (simp [D.same] at h1; done) | skip
    cases b <;> first | (simp [D.same] at h2; done) | skip
    simp [D.py, W.alike]
  | .str _, a, b, h1, h2 => by
    cases a <;> first | (simp [D.same] at h1; done) | skip
    cases b <;> first | (simp [D.same] at h2; done) | skip
    simp [D.py, W.alike]
  | .tup xs, a, b, h1, h2 => by
    cases a <;> first | (simp [D.same] at h1; done) | skip
    cases b <;> first | (simp [D.same] at h2; done) | skip
    rename_i as bs
    simp only [D.same] at h1 h2
    simp only [D.py, W.alike]
    exact same_alikeL xs as bs h1 h2
  | .lst xs, a, b, h1, h2 => by
    cases a <;> first | (simp [D.same] at h1; done) | skip
    cases b <;> first | (simp [D.same] at h2; done) | skip
    rename_i as bs
    simp only [D.same] at h1 h2
    simp only [D.py, W.alike]
    exact same_alikeL xs as bs h1 h2
  | .non, a, b, h1, _ => by cases a <;> simp [D.same] at h1
  | .dic _ _, a, b, h1, _ => by cases a <;> simp [D.same] at h1
  | .scr _, a, b, h1, _ => by cases a <;> simp [D.same] at h1
theorem same_alikeL : ∀ (xs as bs : List D), D.sameL xs as = true → D.sameL xs bs = true → W.alikeAll (D.pyL as) (D.pyL bs) = true
  | [], as, bs, h1, h2 => by
    cases as <;> first | (simp [D.sameL] at h1; done) | skip
    cases bs <;> first | (simp [D.sameL] at h2; done) | skip
    simp [D.pyL, W.alikeAll]
  | x :: xs, as, bs, h1, h2 => by
    cases as <;> first | (simp [D.sameL] at h1; done) | skip
    cases bs <;> first | (simp [D.sameL] at h2; done) | skip
    rename_i a as b bs
    simp only [D.sameL, Bool.and_eq_true] at h1 h2
    simp only [D.pyL, W.alikeAll, Bool.and_eq_true]
    exact ⟨same_alike x a b h1.1 h2.1, same_alikeL xs as bs h1.2 h2.2⟩
end
/-- what can be sorted -/
def srtK : D → Bool
  | .int _ => true
  | .str _ => true
  | .lst _ => true
  | .bl _ => true
  | .tup (_ :: _) => true
  | _ => false
def dle (a b : D) : Bool := W.dataLe false D.py a b
def sortL : List D → Option (List D)
  | [] => some []
  | x :: r => if srtK x = true ∧ x.same x = true ∧ r.all (fun y => x.same y) = true ∧ (x :: r).all (fun y => y.shp 16) = true then some ((x :: r).mergeSort dle) else none
def sortF : List D → Option D
  | [.lst l] => (sortL l).map D.lst
  | [.tup l] => (sortL l).map D.lst
  | _ => none
theorem srt_kind {x a : D} (hk : srtK x = true) (h : x.same a = true) : (∃ y r, x.py = .tuple (y :: r) ∧ ∃ z t, a.py = .tuple (z :: t)) ∨ ((∀ l, x.py ≠ .tuple l) ∧ a.py ≠ .none ∧ ∀ l, a.py ≠ .tuple l) := by
  cases x <;> cases a <;> first | (simp [D.same] at h; done) | skip
  · exact .inr (by simp [D.py])
  · exact .inr (by simp [D.py])
  · exact .inr (by simp [D.py])
  · rename_i xs as
    cases xs with
    | nil => simp [srtK] at hk
    | cons y r =>
      cases as with
      | nil => simp [D.same, D.sameL] at h
      | cons z t => exact .inl ⟨_, _, by simp only [D.py, D.pyL] <;> rfl, _, _, by simp only [D.py, D.pyL] <;> rfl⟩
  · exact .inr (by simp [D.py])
theorem sortL_inv {l m : List D} (h : sortL l = some m) : m = l.mergeSort dle ∧ W.AllAlike (l.map D.py) ∧ W.Sortable (l.map D.py) ∧ ∀ d ∈ l, d.shp 16 = true := by
  unfold sortL at h
  split at h
  · cases h
    refine ⟨by simp, fun d hd => by simp at hd, .inl fun d hd => by simp at hd, fun d hd => by simp at hd⟩
  · rename_i x r
    split at h
    · rename_i hz
      obtain ⟨h1, h2, h3, h4⟩ := hz
      cases h
      have hs : ∀ a ∈ x :: r, x.same a = true := fun a ha => by
        rcases List.mem_cons.mp ha with rfl | ha
        · exact h2
        · exact List.all_eq_true.mp h3 a ha
      refine ⟨rfl, fun d hd d' hd' => ?_, ?_, fun d hd => List.all_eq_true.mp h4 d hd⟩
      · obtain ⟨a, ha, rfl⟩ := List.mem_map.mp hd
        obtain ⟨b, hb, rfl⟩ := List.mem_map.mp hd'
        exact same_alike x a b (hs a ha) (hs b hb)
      · rcases srt_kind h1 h2 with ⟨y, t, hy, _⟩ | ⟨hy, _⟩
        · refine .inl fun d hd => ?_
          obtain ⟨a, ha, rfl⟩ := List.mem_map.mp hd
          rcases srt_kind h1 (hs a ha) with ⟨_, _, _, z, u, q⟩ | ⟨q, _⟩
          · exact ⟨z, u, q⟩
          · exact absurd hy (q _)
        · refine .inr fun d hd => ?_
          obtain ⟨a, ha, rfl⟩ := List.mem_map.mp hd
          rcases srt_kind h1 (hs a ha) with ⟨y', t', q, _⟩ | ⟨_, q⟩
          · exact absurd q (hy _)
          · exact q
    · cases h
/-! ### a tuple's items in a new list, sorted -/
section
variable {prog : Program} {w : World} {A : Around} {E : Value → Shared → Prop} {s : Shared} {β : Type} {R : Value → β → Prop} {enc : β → PyData} {vs : List Value} {bs : List β}
theorem coll_tup {l : Addr} {Q : List Value → Shared → Prop} (hT : s.heap.IsTuple l vs.toArray) (hz : vs.length ≤ sizeLine)
    (hq : Q vs { s with heap := (s.heap.push (seqObj "list" #[] 0)).update s.heap.objs.size (Obj.mapSeq (· ++ vs.toArray)) }) : wpAny (model prog w) A (collect (.ref l)) Q E s := by
  obtain ⟨o, ho, hc, n, hd⟩ := id hT
  unfold collect
  refine wpAny_bind (wpAny_runValue (codeAny_builtin PyProof.Rows.entry_proto_collect' ?_))
  show wpAny _ _ (newList [] >>= fun x => again (.builtin "list.__iadd__" ⟨[x, .ref l], []⟩)) _ _ s
  refine wpAny_bind (wpAny_newList (wpAny_pure ⟨Code.quiet_builtin _ (by decide +kernel), codeAny_builtin PyProof.Rows.entry_list_iadd' ?_⟩))
  show wpAny _ _ (Builtin.List.listExtendWith (.ref s.heap.objs.size) (.ref l) (.ref s.heap.objs.size)) _ _ ({ s with heap := s.heap.push (seqObj "list" #[] 0) } : Shared)
  unfold Builtin.List.listExtendWith
  have o2 : (s.heap.push (seqObj "list" #[] 0)).get? l = some o := Heap.get?_push_of_some _ ho
  refine wpAny_bind (wpAny_typeOf (T := "tuple") ⟨o, o2, hc⟩ ?_)
  have e2 : (Value.type "tuple" == Value.type "tuple") = true := by rfl
  rw [if_pos (by rw [e2]; simp)]
  refine wpAny_bind (PyProof.Rows.listItems_at o2 hd ?_)
  refine wpAny_bind (PyProof.Rows.listItems_at (n := 0) (xs := #[]) (Heap.get?_push_size _ rfl) rfl ?_)
  rw [if_neg (by simp)]
  have hs2 : (#[] ++ vs.toArray).size ≤ sizeLine + 1 := by simp only [Array.size_append, List.size_toArray, List.length_nil]; omega
  refine wpAny_bind (PyProof.Rows.listUpdate_at (n := 0) (xs := #[]) (Heap.get?_push_size _ rfl) rfl ?_ (Nat.zero_le _) hs2)
  refine wpAny_pure ?_
  show wpAny (model prog w) A (load s.heap.objs.size >>= fun o => match o.data with
      | .seq xs _ => pure xs.toList
      | _ => unsupported "internal:collect") Q E ({ s with heap := (s.heap.push (seqObj "list" #[] 0)).update s.heap.objs.size (Obj.mapSeq (· ++ vs.toArray)) } : Shared)
  refine wpAny_bind (wpAny_load (PyProof.Rows.get?_update_seq (Heap.get?_push_size _ rfl) _) ?_)
  have e3 : ((#[] : Array Value) ++ vs.toArray).toList = vs := by simp
  show wpAny _ _ (pure ((#[] : Array Value) ++ vs.toArray).toList) Q E _
  rw [e3]
  exact wpAny_pure hq
theorem sorted_tup {l : Addr} {Q : Value → Shared → Prop} (hT : s.heap.IsTuple l vs.toArray) (e : W.EachIs R vs bs) (er : W.EachIs (fun v b => ∃ as, Reads s.heap v (enc b) as) vs bs) (hal : W.AllAlike (bs.map enc)) (hk : W.Sortable (bs.map enc)) (hL : bs.length ≤ sizeLine)
    (hu : ∀ b, b ∈ bs → A.units + 2 + (enc b).depth < cLine) (h : ∀ out, out.length = bs.length → W.EachIs R out (bs.mergeSort (W.dataLe false enc)) → Q (.ref (s.heap.objs.size + 1)) { s with heap := PyProof.Rows.sortedAll s.heap vs (List.toArray out) }) :
    wpAny (model prog w) A (call (.builtin "sorted") [.ref l]) Q E s := by
  have hz : vs.length ≤ sizeLine := by rw [e.length]; exact hL
  have er2 : W.EachIs (fun v b => ∃ as, Reads (W.sortingHeap (W.copyHeap s.heap vs) (s.heap.objs.size + 1) vs) v (enc b) as) vs bs := er.mono fun _ _ ⟨as, r⟩ => ⟨as, Reads.keeps (fun _ _ => W.sorting_copy_old) r⟩
  have S := W.SortsAt.data (prog := prog) (w := w) (A := A.in1.in1) (s := { s with heap := W.sortingHeap (W.copyHeap s.heap vs) (s.heap.objs.size + 1) vs }) (W.each_map (R := fun v d => ∃ as, Reads (W.sortingHeap (W.copyHeap s.heap vs) (s.heap.objs.size + 1) vs) v d as) enc er2) hal hk (W.bound_map hu)
  refine PyProof.Rows.call_function_entry_kw PyProof.Rows.kind_sorted PyProof.Rows.plain_sorted PyProof.Rows.entry_sorted (PyProof.Rows.args_sorted1 _) ?_
  unfold Builtin.«sorted»
  refine wpAny_bind (m := checkCount "sorted" 1 1 _) (wpAny_pure ?_)
  refine wpAny_bind (coll_tup hT hz ?_)
  refine wpAny_bind (wpAny_newList ?_ hz)
  have e4 : ((s.heap.push (seqObj "list" #[] 0)).update s.heap.objs.size (Obj.mapSeq (· ++ vs.toArray))).objs.size = s.heap.objs.size + 1 := by
    rw [Heap.size_update, PyProof.Rows.size_push']
  show wpAny _ _ _ _ _ ({ s with heap := W.copyHeap s.heap vs } : Shared)
  rw [e4]
  refine wpAny_bind (wpAny_holding (wpAny_call_entry_kw PyProof.Rows.slot_list_sort ⟨_, W.copyHeap_at s.heap vs, rfl⟩ PyProof.Rows.entry_list_sort ?body (PyProof.Rows.args_list_sort _)))
  case body =>
    show wpAny (model prog w) A.in1.in1 (Builtin.«list.sort» ⟨[.ref (s.heap.objs.size + 1)], []⟩) _ _ _
    refine wpAny_mono (W.list_sort_vals (P := fun f s' => f = .done (.ret .none) ∧ Q (.ref (s.heap.objs.size + 1)) s') (s := { s with heap := W.copyHeap s.heap vs }) (W.copyHeap_at s.heap vs) S hz ⟨rfl, ?_⟩) (fun f s' hf => ?_) fun _ _ e => e
    · exact h _ (by rw [W.sortVals_length false rfl]; exact e.length) (W.sortVals_data false e er2 hal)
    · obtain ⟨rfl, hq⟩ := hf
      exact ⟨_, rfl, wpAny_pure ⟨_, rfl, hq⟩⟩
end
section
variable {X : Cx} {C : Cfg}
def rSortedD (K : Frag) : List V → Hp → VK → Prop := fun vs H Q => ∃ (a : Addr) (ps : List (V × D)), vs = [.ref a] ∧ (SqL K H a (ps.map (·.1)) ∨ SqT K H a (ps.map (·.1))) ∧ (∀ p ∈ ps, Dp K H p.1 p.2.py ∧ p.2.shp 16 = true) ∧ W.AllAlike (ps.map fun p => p.2.py) ∧ W.Sortable (ps.map fun p => p.2.py) ∧ ∀ p, H p = none → Q (.ref p) (upd H p (.lst ((ps.mergeSort (W.dataLe false fun p => p.2.py)).map (·.1))))
theorem each_of {K : Frag} {R : Value → V × D → Prop} : ∀ {ps : List (V × D)} {us : List Value}, Vals (ps.map (·.1)) us → (∀ p ∈ ps, ∀ u, RelV p.1 u → R u p) → W.EachIs R us ps
  | [], us, h, _ => by cases h; exact .nil
  | p :: ps, us, h, k => by
    cases h with
    | cons a b => exact .cons (k p List.mem_cons_self _ a) (each_of (K := K) b fun q hq => k q (List.mem_cons_of_mem _ hq))
theorem vals_each : ∀ {ps : List (V × D)} {us : List Value}, W.EachIs (fun u (p : V × D) => RelV p.1 u) us ps → Vals (ps.map (·.1)) us
  | _, _, .nil => .nil
  | _, _, .cons a b => .cons a (vals_each b)
theorem cr_sortedD (hu : X.A.units + 100 < cLine) : CallR X (.builtin "sorted") (rSortedD X.K) := by
  intro pins s σ H vs us Q I r h
  obtain ⟨a, ps, rfl, hs, hp, h1, h2, q⟩ := h
  have fin : ∀ (its : List Value), Vals (ps.map (·.1)) its → ps.length ≤ sizeLine → ∀ (out : List Value), out.length = ps.length → W.EachIs (fun u (p : V × D) => RelV p.1 u) out (ps.mergeSort (W.dataLe false fun p => p.2.py)) → EP X pins σ Q (.ref (s.heap.objs.size + 1)) { s with heap := PyProof.Rows.sortedAll s.heap its (List.toArray out) } := fun its rv hz' out ho e => by
    obtain ⟨ep, he'⟩ := PyProof.Rows.sortedAll_at s.heap its out.toArray
    have hz2 : ((ps.mergeSort (W.dataLe false fun p => p.2.py)).map (·.1)).length ≤ sizeLine := by
      rw [List.length_map, List.length_mergeSort]; exact hz'
    exact ⟨.ref _, upd H (s.heap.objs.size + 1) (.lst _), I.laid (t' := s.toks) (fun _ _ => PyProof.Rows.sortedAll_old) (Nat.le_succ _) ⟨hz2, out, ep, vals_each e, he'⟩, rfl, q _ (I.hok.fresh (Nat.le_succ _))⟩
  have hdp : ∀ p ∈ ps, X.A.units + 2 + p.2.py.depth < cLine := fun p hp' => by
    have := (shp_can 16 p.2 (hp p hp').2).2
    omega
  rw [Vals.ref1 r]
  rcases hs with hs | hs
  · obtain ⟨its, rv, hl, hz⟩ := I.list hs
    have hz' : ps.length ≤ sizeLine := by rw [List.length_map] at hz; exact hz
    exact W.sorted_data (R := fun u (p : V × D) => RelV p.1 u) (bs := ps) (enc := fun p => p.2.py) hl.isList (each_of (K := X.K) rv fun p _ u hu => hu) (each_of (K := X.K) rv fun p hp' u hu => Dp.reads I _ _ u (hp p hp').1 hu) h1 h2 hz' hdp (fin its rv hz')
  · obtain ⟨its, rv, hl, hz⟩ := I.tuple hs
    have hz' : ps.length ≤ sizeLine := by rw [List.length_map] at hz; exact hz
    exact sorted_tup (R := fun u (p : V × D) => RelV p.1 u) (bs := ps) (enc := fun p => p.2.py) hl (each_of (K := X.K) rv fun p _ u hu => hu) (each_of (K := X.K) rv fun p hp' u hu => Dp.reads I _ _ u (hp p hp').1 hu) h1 h2 hz' hdp (fin its rv hz')
theorem repL_zip {K : Frag} {G : Hp} : ∀ {xs : List V} {ds : List D}, RepL K G xs ds → (xs.zip ds).map (·.1) = xs ∧ (xs.zip ds).map (·.2) = ds ∧ ∀ p ∈ xs.zip ds, Rep K G p.1 p.2
  | _, _, .nil => ⟨rfl, rfl, fun p hp => by simp at hp⟩
  | _, _, .cons a b => by
    obtain ⟨h1, h2, h3⟩ := repL_zip b
    refine ⟨by simp [h1], by simp [h2], fun p hp => ?_⟩
    rw [List.zip_cons_cons] at hp
    rcases List.mem_cons.mp hp with rfl | hp
    · exact a
    · exact h3 p hp
theorem repL_pairs {K : Frag} {G : Hp} : ∀ {ps : List (V × D)}, (∀ p ∈ ps, Rep K G p.1 p.2) → RepL K G (ps.map (·.1)) (ps.map (·.2))
  | [], _ => .nil
  | p :: ps, h => .cons (h p List.mem_cons_self) (repL_pairs fun q hq => h q (List.mem_cons_of_mem _ hq))
theorem sortF_ok (hK : C.K = X.K) : OkNF C (rSortedD X.K) sortF := fun vs ds d G H Q s t r e k => by
  have main : ∀ (a : Addr) (xs : List V) (l m : List D), sortL l = some m → RepL C.K G xs l → (SqL X.K H a xs ∨ SqT X.K H a xs) → d = .lst m → rSortedD X.K [.ref a] H Q := fun a xs l m hm rr hsq hd => by
    subst hd
    obtain ⟨rfl, h1, h2, h3⟩ := sortL_inv hm
    obtain ⟨z1, z2, z3⟩ := repL_zip rr
    have e2 : ((xs.zip l).map fun p => p.2.py) = l.map D.py := by
      have e0 : ((xs.zip l).map fun p => p.2.py) = ((xs.zip l).map (·.2)).map D.py := by rw [List.map_map]; rfl
      rw [e0, z2]
    refine ⟨a, xs.zip l, rfl, by rw [z1]; exact hsq, fun p hp => ?_, by rw [e2]; exact h1, by rw [e2]; exact h2, fun p hp => ?_⟩
    · have hp2 : p.2 ∈ l := by rw [← z2]; exact List.mem_map.mpr ⟨p, hp, rfl⟩
      exact ⟨by rw [← hK]; exact rep_dp 16 _ _ (h3 _ hp2) ((z3 p hp).mono s), h3 _ hp2⟩
    · refine k p _ hp ?_
      have e1 : ((xs.zip l).mergeSort (W.dataLe false fun p => p.2.py)).map (·.2) = l.mergeSort dle := by
        have := List.map_mergeSort (r := W.dataLe false fun (p : V × D) => p.2.py) (s := dle) (f := (·.2)) (l := xs.zip l) (fun a _ b _ => rfl)
        rw [this, z2]
      rw [← e1]
      exact .lst (repL_pairs fun p hp => z3 p (List.mem_mergeSort.mp hp))
  unfold sortF at e
  split at e
  · rename_i l
    cases hm : sortL l with
    | none => rw [hm] at e; cases e
    | some m =>
      rw [hm] at e
      cases e
      obtain ⟨v, rfl, rv⟩ := repTs_one r
      cases rv with
      | lst q rr => exact main _ _ l m hm rr (.inl (SqL.of q)) rfl
  · rename_i l
    cases hm : sortL l with
    | none => rw [hm] at e; cases e
    | some m =>
      rw [hm] at e
      cases e
      obtain ⟨v, rfl, rv⟩ := repTs_one r
      cases rv with
      | tup g q rr => exact main _ _ l m hm rr (.inr (SqT.of q)) rfl
  · cases e
end
end Mi

/-! enumerate, zip over lists, tuples, texts. -/
namespace Mi
open PySem PySem.Spec PyProof.Rows L2 GxR
/-- what stands still while it is walked -/
inductive Src where
  | lst (a : Addr) (xs : List V)
  | tup (a : Addr) (xs : List V)
  | txt (x : Str)
def Src.vals : Src → List V
  | .lst _ xs => xs
  | .tup _ xs => xs
  | .txt x => x.cps.toList.map fun c => V.str ⟨#[c]⟩
def Src.v : Src → V
  | .lst a _ => .ref a
  | .tup a _ => .ref a
  | .txt x => .str x
def Src.ok (H : Hp) : Src → Prop
  | .lst a xs => H a = some (.lst xs)
  | .tup a xs => H a = some (.tup xs)
  | .txt _ => True
def Src.at (h : Heap) (it : Addr) (i : Nat) : Src → Prop
  | .lst a _ => h.IsListIter it a i
  | .tup a _ => h.IsTupleIter it a i
  | .txt x => ∃ t, h.IsStrIter it (strIterType x) x t i
theorem Src.ok.mono {H H' : Hp} (s : Same H H') : ∀ {z : Src}, z.ok H → z.ok H'
  | .lst _ _, h => s _ _ h
  | .tup _ _, h => s _ _ h
  | .txt _, h => h
theorem Src.at.obj {h : Heap} {it : Addr} {i : Nat} : ∀ {z : Src}, z.at h it i → ∃ o, h.get? it = some o ∧ ∀ v, o.data ≠ .cell v
  | .lst _ _, ⟨o, e, _, d⟩ => ⟨o, e, fun v z => by rw [d] at z; cases z⟩
  | .tup _ _, ⟨o, e, _, d⟩ => ⟨o, e, fun v z => by rw [d] at z; cases z⟩
  | .txt _, ⟨_, o, e, _, d⟩ => ⟨o, e, fun v z => by rw [d] at z; cases z⟩
theorem Src.at.keep {h h' : Heap} {it : Addr} {i : Nat} (k : ∀ o, h.get? it = some o → h'.get? it = some o) : ∀ {z : Src}, z.at h it i → z.at h' it i
  | .lst _ _, ⟨o, e, r⟩ => ⟨o, k o e, r⟩
  | .tup _ _, ⟨o, e, r⟩ => ⟨o, k o e, r⟩
  | .txt _, ⟨t, o, e, r⟩ => ⟨t, o, k o e, r⟩
theorem valsBack : ∀ {xs : List V} {us : List Value} {j : Nat} {u : Value}, Vals xs us → us[j]? = some u → ∃ x, xs[j]? = some x ∧ RelV x u
  | _, _, _, _, .nil, e => by simp at e
  | _, _, 0, _, .cons r _, e => by
    have e' := Option.some.inj (show some _ = some _ from e)
    subst e'
    exact ⟨_, rfl, r⟩
  | _, _, j + 1, _, .cons _ t, e => valsBack (j := j) t (by simpa using e)
section
variable {X : Cx} {pins : List (Addr × Obj)} {σ : L2.St} {H : Hp} {s : Shared}
/-- a walk of such a thing, as it stands now -/
theorem draws_of (I : Inv X pins σ H s) (hh : X.A.handled = none) {z : Src} (hz : z.ok H) {it : Addr} {i : Nat} (hi : H it = none) (st : z.at s.heap it i) :
    ∃ (fp : List Addr) (P : Nat → Value → Prop) (Z : Nat → Heap → Prop), PySem.Draws X.prog X.w X.A.in1 it fp z.vals.length P Z ∧ Z i s.heap ∧ (∀ j h, Z j h → z.at h it j) ∧ (∀ j v, P j v → ∃ x, z.vals[j]? = some x ∧ RelV x v) ∧
      it ∈ fp ∧ ∀ b ∈ fp, b = it ∨ H b ≠ none := by
  cases z with
  | lst a xs =>
    have hz : H a = some (.lst xs) := hz
    obtain ⟨its, rv, p, _⟩ := I.list (SqL.of hz)
    have hne : a ≠ it := fun e => by rw [e, hi] at hz; cases hz
    have hl := rv.length
    have D := PySem.Draws.list (prog := X.prog) (w := X.w) (A := X.A.in1) hh it a hne its.toArray
    rw [show its.toArray.size = (Src.lst a xs).vals.length by simp [Src.vals, hl]] at D
    refine ⟨_, _, _, D, ⟨st, p.isList⟩, fun j h q => q.1, fun j v q => ?_, by simp, fun b hb => ?_⟩
    · have q' : its[j]? = some v := by simpa using q
      exact valsBack rv q'
    · rcases List.mem_cons.mp hb with rfl | hb
      · exact .inl rfl
      · rw [List.mem_singleton.mp hb]
        exact .inr (by rw [hz]; simp)
  | tup a xs =>
    have hz : H a = some (.tup xs) := hz
    obtain ⟨its, rv, p, _⟩ := I.tuple (SqT.of hz)
    have hne : a ≠ it := fun e => by rw [e, hi] at hz; cases hz
    have hl := rv.length
    have D := PySem.Draws.tuple (prog := X.prog) (w := X.w) (A := X.A.in1) hh it a hne its.toArray
    rw [show its.toArray.size = (Src.tup a xs).vals.length by simp [Src.vals, hl]] at D
    refine ⟨_, _, _, D, ⟨st, p⟩, fun j h q => q.1, fun j v q => ?_, by simp, fun b hb => ?_⟩
    · have q' : its[j]? = some v := by simpa using q
      exact valsBack rv q'
    · rcases List.mem_cons.mp hb with rfl | hb
      · exact .inl rfl
      · rw [List.mem_singleton.mp hb]
        exact .inr (by rw [hz]; simp)
  | txt x =>
    obtain ⟨t, st⟩ := st
    have D := PySem.Draws.text (prog := X.prog) (w := X.w) (A := X.A.in1) hh it x t
    rw [show x.cps.size = (Src.txt x).vals.length by simp [Src.vals]] at D
    refine ⟨_, _, _, D, st, fun j h q => ⟨t, q⟩, fun j v q => ?_, by simp, fun b hb => .inl (by simpa using hb)⟩
    obtain ⟨c, u, h1, rfl⟩ := q
    refine ⟨.str ⟨#[c]⟩, ?_, ⟨u, rfl⟩⟩
    show (x.cps.toList.map fun c => V.str ⟨#[c]⟩)[j]? = _
    rw [List.getElem?_map, Array.getElem?_toList, h1]
    rfl
/-! ### pairs in turn -/
/-- at each turn a new tuple of vs i -/
def ItP (n : Nat) (ok : Hp → Prop) (vs : Nat → List V) : It :=
  ⟨fun i H => i < n ∧ ok H, fun i H v H' => ∃ T, v = .ref T ∧ H T = none ∧ H' = upd H T (.tup (vs i)), fun i H => i = n ∧ ok H⟩
theorem turn_of {P : Program} {w : World} {K : Frag} {elts : List Expr} {kk : Nat} {tpos : Pos} {n : Nat} {ok : Hp → Prop} {vs : Nat → List V} {own : List Addr} {it : Addr} {tn : Nat → Heap → Prop} (hmem : it ∈ own) (hvs : ∀ i, (vs i).length ≤ 16)
    (hobj : ∀ i h, tn i h → ∀ b ∈ own, ∃ o, h.get? b = some o ∧ ∀ v, o.data ≠ .cell v) (hkeep : ∀ i h h', tn i h → (∀ b ∈ own, ∀ o, h.get? b = some o → h'.get? b = some o) → tn i h')
    (hself : ∀ (A : Around) (i : Nat) (s : Shared) (Q : Value → Shared → Prop) (E : Value → Shared → Prop), tn i s.heap → Q (.ref it) s → wpAny (model P w) A (pyIter (.ref it)) Q E s)
    (hW : ∀ (X : Cx), X.prog = P → X.w = w → X.K = K → X.calm = true → ∀ (i : Nat) (pins : List (Addr × Obj)) (s : Shared) (σ : L2.St) (H : Hp), Inv X pins σ H s → (∀ b ∈ own, FpOk X pins H b) → tn i s.heap → ok H →
      ∃ (fp wr : List Addr) (Pt : Nat → Array Value → Prop) (Z : Nat → Heap → Prop) (Mid : Nat → Addr → Heap → Prop), WalksT P w X.A it fp wr n Pt Z Mid ∧ Z i s.heap ∧ (∀ b ∈ wr, b ∈ own) ∧ (∀ j vals, Pt j vals → ∃ its : List Value, vals = its.toArray ∧ Vals (vs j) its) ∧
        ∀ j h, Z j h → (∀ b ∈ own, b ∉ wr → ∀ o, s.heap.get? b = some o → h.get? b = some o) → tn j h) :
    Turn P w K (.Tuple elts kk tpos) (ItP n ok vs) own it tn where
  mem := hmem
  obj := hobj
  keep := hkeep
  item := by
    intro X hP hw hK hc i pins s σ H E I hf st hg
    obtain ⟨fp, wr, Pt, Z, Mid, W, hZ, hwr, hPt, htn⟩ := hW X hP hw hK hc i pins s σ H I hf st hg.2
    refine W.item i s _ _ hg.1 hZ fun T vals h' tk hv hsz hT hM hk => ?_
    refine ⟨_, rfl, W.go elts kk tpos i T _ _ _ hM fun h2 hZ2 hk2 => ?_⟩
    obtain ⟨its, rfl, rv⟩ := hPt i vals hv
    have hTw := W.apart i T _ hM
    obtain ⟨o, ho, hoc, hod⟩ := hT
    have hT2 : IsTup h2 T its.toArray := ⟨o, hk2 T o hTw ho, hoc, hod⟩
    have kk2 : ∀ b ob, b ∉ wr → s.heap.get? b = some ob → h2.get? b = some ob := fun b ob hb e => hk2 b ob hb (hk b ob hb e)
    subst hP hw
    have new : ObjOk X.prog X.w (upd H T (.tup (vs i))) h2 T (.tup (vs i)) := ⟨Nat.le_trans (hvs i) (by rw [sizeLine_eq]; omega), its, rv, hT2⟩
    have I2 : Inv X pins σ (upd H T (.tup (vs i))) { s with heap := h2, toks := tk } := I.turnedNew (ch := wr) kk2 (fun b hb => hf b (hwr b hb)) hsz new
    refine ⟨.ref T, _, I2, rfl, ⟨T, rfl, I.hok.fresh hsz, rfl⟩, htn (i + 1) h2 hZ2 fun b _ hb o e => kk2 b o hb e, fun b hb => ?_⟩
    obtain ⟨ob, hob, _⟩ := hobj i s.heap st b hb
    have hlt := Heap.lt_size hob
    rw [upd_ne (Nat.ne_of_lt (Nat.lt_of_lt_of_le hlt hsz))]
    exact (hf b hb).1
  done := by
    intro X hP hw hK hc i pins s σ H E I hf st hg
    obtain ⟨fp, wr, Pt, Z, Mid, W, hZ, hwr, hPt, htn⟩ := hW X hP hw hK hc i pins s σ H I hf st hg.2
    rw [hg.1] at hZ
    subst hP hw
    exact W.done s _ _ hZ fun h' tk hk => ⟨rfl, I.turnedL (ch := wr) hk fun b hb => hf b (hwr b hb)⟩
  self := hself
/-! ### enumerate -/
theorem turn_en {P : Program} {w : World} {K : Frag} {elts : List Expr} {kk : Nat} {tpos : Pos} (z : Src) (e it : Addr) (hne : e ≠ it) :
    Turn P w K (.Tuple elts kk tpos) (ItP z.vals.length z.ok fun i => [.int (i : Nat), z.vals.getD i .non]) [e, it] e (fun i h => (∃ old, IsEnum h e it ((0 : Int) + ((i : Nat) : Int)) old) ∧ z.at h it i) := by
  refine turn_of (by simp) (fun i => by simp) ?_ ?_ ?_ ?_
  · intro i h ⟨⟨old, he⟩, hi⟩ b hb
    rcases List.mem_cons.mp hb with rfl | hb
    · exact ⟨_, he, fun v q => nomatch q⟩
    · rw [List.mem_singleton.mp hb]
      exact hi.obj
  · intro i h h' ⟨⟨old, he⟩, hi⟩ k
    exact ⟨⟨old, k e (by simp) _ he⟩, hi.keep (k it (by simp))⟩
  · intro A i s Q E ⟨⟨old, he⟩, _⟩ hq
    exact wpAny_pyIter_enum he hq
  · intro X hP hw hK hc i pins s σ H I hf ⟨⟨old, he⟩, hi⟩ hok
    subst hP hw
    obtain ⟨fp, Pv, Z, D, hZ, h1, h2, h3, h4⟩ := draws_of I (I.ok.hd hc) hok (hf it (by simp)).1 hi
    have hef : e ∉ fp := fun q => by
      rcases h4 e q with z | z
      · exact hne z
      · exact z (hf e (by simp)).1
    refine ⟨_, _, _, _, _, WalksT.enumFrom 0 D e hne hef h3, ⟨⟨old, he⟩, hZ⟩, fun b hb => hb, fun j vals q => ?_, fun j h q _ => ⟨q.1, h1 j h q.2⟩⟩
    obtain ⟨t, x, hx, rfl⟩ := q
    obtain ⟨y, hy, ry⟩ := h2 j x hx
    refine ⟨[.int ((0 : Int) + (j : Int)) t, x], rfl, .cons ⟨t, by rw [Int.zero_add]⟩ (.cons ?_ .nil)⟩
    rw [List.getD_eq_getElem?_getD, hy]
    exact ry
theorem en_new1 {v : Value} {o : Obj} {Hh : Heap → Prop} (B : Begins v o Hh) :
    Meets (Builtin.«enumerate.__new__» ⟨[.type "enumerate", v], []⟩) (fun _ Rr st => Hh st.heap ∧
      Rr (.ok (.ret (.ref (st.heap.push o).objs.size))) { st with heap := (st.heap.push o).push { cls := .type "enumerate", data := .fields #[.none, .bool false, .ref st.heap.objs.size, rawInt 0, .none, .none] } }) :=
  .of_wp fun prog w A Rr st h => by
    obtain ⟨hp, gg, dd, tk, oo⟩ := st
    obtain ⟨h1, h⟩ := h
    have hsub := sub_enumerate
    have q1 : ∀ {A2 : Around} {E2 : Value → Shared → Prop} {Q2 : Value → Shared → Prop}, Q2 (.ref hp.objs.size) ⟨hp.push o, gg, dd, tk, oo⟩ → wpAny (model prog w) A2 (pyIter v) Q2 E2 ⟨hp, gg, dd, tk, oo⟩ :=
      fun q => B.iter prog w _ _ ⟨hp, gg, dd, tk, oo⟩ _ h1 q
    wp_walk using q1
    refine wpAny_stack_any fun st2 => wpAny_pure ?_
    split
    · rename_i c _ _ _ _ _
      cases (c == Value.type "enumerate")
      · wp_walk using q1
        exact ⟨_, rfl, h⟩
      · wp_walk using q1
        exact ⟨_, rfl, h⟩
    · wp_walk using q1
      exact ⟨_, rfl, h⟩
theorem en_begins {prog : Program} {w : World} {A : Around} {E : Value → Shared → Prop} {st : Shared} {v : Value} {o : Obj} {Hh : Heap → Prop} {Q : Value → Shared → Prop} (B : Begins v o Hh) (h1 : Hh st.heap)
    (h : ∀ h2, IsEnum h2 (st.heap.objs.size + 1) st.heap.objs.size 0 .none → h2.get? st.heap.objs.size = some o → (∀ b u, st.heap.get? b = some u → h2.get? b = some u) → Q (.ref (st.heap.objs.size + 1)) { st with heap := h2 }) :
    wpAny (model prog w) A (call (.type "enumerate") [v]) Q E st := by
  refine callType_new F.called_enumerate (by decide) (F.typeCall_enumerate_1 _) (F.newCall_enumerate_1 _) (fun obj => F.args_object_init_2 obj _) F.entry_enumerate_new (en_new1 B) ⟨h1, ?_⟩
  have hz : (st.heap.push o).objs.size = st.heap.objs.size + 1 := Heap.size_push ..
  show _ ∧ _
  rw [hz]
  have he : IsEnum ((st.heap.push o).push { cls := .type "enumerate", data := .fields #[.none, .bool false, .ref st.heap.objs.size, rawInt 0, .none, .none] }) (st.heap.objs.size + 1) st.heap.objs.size 0 .none := by
    have e2 := Heap.get?_push_size (st.heap.push o) (o := { cls := .type "enumerate", data := .fields #[.none, .bool false, .ref st.heap.objs.size, rawInt 0, .none, .none] }) rfl
    rw [hz] at e2
    exact e2
  exact ⟨⟨_, he, rfl⟩, h _ he (Heap.get?_push_of_some _ (Heap.get?_push_size _ B.free)) fun b u x => Heap.get?_push_of_some _ (Heap.get?_push_of_some _ x)⟩
/-- how such a thing's walk begins -/
theorem begins_of (I : Inv X pins σ H s) {z : Src} (hz : z.ok H) {u : Value} (hu : RelV z.v u) : ∃ (o : Obj) (Hh : Heap → Prop), Begins u o Hh ∧ Hh s.heap ∧ ∀ h it, h.get? it = some o → z.at h it 0 := by
  cases z with
  | lst a xs =>
    obtain rfl : u = .ref a := hu
    obtain ⟨its, rv, p, _⟩ := I.list (SqL.of hz)
    exact ⟨_, _, begins_list a its.toArray, p.isList, fun h it e => ⟨_, e, rfl, rfl⟩⟩
  | tup a xs =>
    obtain rfl : u = .ref a := hu
    obtain ⟨its, rv, p, _⟩ := I.tuple (SqT.of hz)
    exact ⟨_, _, begins_tuple a its.toArray, p, fun h it e => ⟨_, e, rfl, rfl⟩⟩
  | txt x =>
    obtain ⟨t, rfl⟩ := hu
    exact ⟨_, _, begins_text x t, trivial, fun h it e => ⟨t, _, e, rfl, rfl⟩⟩
def iEn (ta : TA) : TI := fun σ H R => ta σ H fun vs H1 => ∃ z : Src, vs = [z.v] ∧ z.ok H1 ∧ R (ItP z.vals.length z.ok fun i => [.int (i : Nat), z.vals.getD i .non]) H1
theorem pi_en {e : Expr} {ta : TA} {p pos tpos : Pos} {elts : List Expr} {kk : Nat} (hg : Gl X "enumerate") (hm : X.mg "enumerate" = none) (ha : PA X [e] ta) (hs : starEach [e] X.env = [(false, eval e X.env)] := by rfl) :
    PI X (.Tuple elts kk tpos) (.Call (.Name "enumerate" p) [e] [] pos) (iEn ta) := by
  refine ⟨fun pins s σ H R I h => ?_⟩
  refine Call_ (ld_blt I hg hm boot_enumerate (PyProof.Rows.callWith_type1 (thn (ha.run pos pins s σ H _ I h) fun us s1 ⟨vs, H1, I1, r1, q1⟩ => ?_) hs rfl))
  obtain ⟨z, rfl, hz, q⟩ := q1
  obtain ⟨u, rfl, ru⟩ := vals1 r1
  obtain ⟨o, Hh, B, hH, hat⟩ := begins_of I1 hz ru
  refine en_begins B hH fun h2 he hi hk => wpAny_pyIter_enum he ?_
  have I2 : Inv X pins σ H1 { s1 with heap := h2 } := I1.kept (t' := s1.toks) hk
  refine ⟨s1.heap.objs.size + 1, [s1.heap.objs.size + 1, s1.heap.objs.size], _, _, H1, rfl, I2, turn_en z (s1.heap.objs.size + 1) s1.heap.objs.size (Nat.succ_ne_self _), ⟨⟨.none, he⟩, hat _ _ hi⟩, fun b hb => ?_, q⟩
  have hle : s1.heap.objs.size ≤ b := by
    rcases List.mem_cons.mp hb with w | w
    · rw [w]; exact Nat.le_add_right _ _
    · rw [List.mem_singleton.mp w]; exact Nat.le_refl _
  exact I1.fpOk hle (I1.hok.fresh hle)
end
/-! ### as rules of the layer -/
def srcD : D → Option (List D)
  | .lst l => some l
  | .tup l => some l
  | .str s => some (s.map fun c => D.str [c])
  | _ => none
section
variable {X : Cx} {C : Cfg} {F G0 G G' H H' : Hp} {pn : Option (Nat × Addr)} {σ : St} {e e' : Env'} {x y : Ex} {a b : Expr} {p pos tpos : Pos} {elts : List Expr} {kk : Nat}
theorem src_of {v : V} {d : D} {l : List D} (r : Rep C.K G v d) (h : srcD d = some l) : ∃ z : Src, z.v = v ∧ z.ok G ∧ RepL C.K G z.vals l := by
  unfold srcD at h
  split at h
  · cases h
    cases r with
    | lst q rr => exact ⟨.lst _ _, rfl, q, rr⟩
  · cases h
    cases r with
    | tup q rr => exact ⟨.tup _ _, rfl, q, rr⟩
  · rename_i s
    cases h
    cases r
    refine ⟨.txt ⟨s.toArray⟩, rfl, trivial, ?_⟩
    show RepL C.K G ((⟨s.toArray⟩ : Str).cps.toList.map fun c => V.str ⟨#[c]⟩) _
    have e0 : (⟨s.toArray⟩ : Str).cps.toList = s := by simp
    rw [e0]
    clear e0
    induction s with
    | nil => exact .nil
    | cons c s ih => exact .cons (.str [c]) ih
  · cases h
theorem walks_P {n : Nat} {ok : Hp → Prop} {vs : Nat → List V} {items : List D} (hn : items.length = n) (hok : ∀ G1 H, Same G G1 → Same G1 H → ok H) (hr : ∀ i d, items[i]? = some d → ∃ ds, d = .tup ds ∧ RepL C.K G (vs i) ds) : Walks C G (ItP n ok vs) items where
  go := fun i G1 H hi s1 s2 => ⟨by omega, hok G1 H s1 s2⟩
  stop := fun i G1 H hi s1 s2 => ⟨by omega, hok G1 H s1 s2⟩
  yld := fun i d G1 H H' x hd s1 s2 t y => by
    obtain ⟨T, rfl, hT, rfl⟩ := y
    obtain ⟨ds, rfl, rr⟩ := hr i d hd
    have gT := s2.free hT
    refine ⟨upd G1 T (.tup (vs i)), grow_new s2 t hT, .tup upd_same (rr.mono fun b u hb => ?_)⟩
    have hb1 := s1 _ _ hb
    rw [upd_ne (ne_of_none hb1 gT)]
    exact hb1
def numL (i : Nat) : List D → List D
  | [] => []
  | d :: ds => .tup [.int (i : Nat), d] :: numL (i + 1) ds
theorem numL_get : ∀ {l : List D} {i j : Nat} {d : D}, (numL i l)[j]? = some d → ∃ x, l[j]? = some x ∧ d = .tup [.int ((i + j : Nat) : Int), x]
  | [], i, j, d, h => by simp [numL] at h
  | x :: l, i, 0, d, h => by
    have h' := Option.some.inj (show some _ = some _ from h)
    exact ⟨x, rfl, h'.symm⟩
  | x :: l, i, j + 1, d, h => by
    obtain ⟨y, h1, h2⟩ := numL_get (l := l) (i := i + 1) (j := j) (by simpa [numL] using h)
    exact ⟨y, by simpa using h1, by rw [h2, show i + 1 + j = i + (j + 1) by omega]⟩
theorem numL_len : ∀ (l : List D) (i : Nat), (numL i l).length = l.length
  | [], _ => rfl
  | _ :: l, i => congrArg Nat.succ (numL_len l (i + 1))
def enumF : List D → Option (List D) := fun ds => match ds with
  | [d] => (srcD d).map (numL 0)
  | _ => none
theorem ci_enum (hg : Gl X "enumerate") (hm : X.mg "enumerate" = none) (ha : PE X a (tE C x)) (hs : starEach [a] X.env = [(false, eval a X.env)] := by rfl) : PI X (.Tuple elts kk tpos) (.Call (.Name "enumerate" p) [a] [] pos) (tI C enumF [x]) :=
  (pi_en hg hm (ca_cons ha ca_nil (by rw [hs] <;> rfl)) hs).imp fun σ H R q => by
    obtain ⟨F, G0, G, pn, e, rs, e1, ds, e2, items, Rr, q1, q2, q3, k⟩ := q
    refine ⟨F, G0, G, pn, e, rs, e1, Rr, q1, fun vs G1 H1 R1 s1 r1 => ?_⟩
    obtain ⟨G2, s2, R2, r2, _⟩ := Rel.settles R1 r1 q2
    unfold enumF at q3
    split at q3
    · rename_i d
      cases hd : srcD d with
      | none => rw [hd] at q3; cases q3
      | some l =>
        rw [hd] at q3
        cases q3
        cases r2 with
        | cons ra rb =>
          cases rb
          obtain ⟨z, hv, hz, rl⟩ := src_of ra hd
          refine ⟨z, by rw [hv], hz.mono R2.gh, k _ G2 H1 R2 (s1.trans s2) (walks_P (by rw [numL_len, rl.length]) (fun G3 H3 t1 t2 => hz.mono (t1.trans t2)) fun i d h => ?_)⟩
          obtain ⟨y, h1, rfl⟩ := numL_get h
          obtain ⟨w, w1, w2⟩ := rl.getD h1
          refine ⟨_, rfl, .cons (by rw [Nat.zero_add]; exact .int _) (.cons ?_ .nil)⟩
          rw [List.getD_eq_getElem?_getD, w1]
          exact w2
    · cases q3
end
end Mi

/-! zip of two, of three. -/
namespace Mi
open PySem PySem.Spec PyProof.Rows L2 GxR
theorem turn_z2 {P : Program} {w : World} {K : Frag} {elts : List Expr} {kk : Nat} {tpos : Pos} (z1 z2 : Src) {N : Nat} :
    Turn P w K (.Tuple elts kk tpos) (ItP (min z1.vals.length z2.vals.length) (fun H => z1.ok H ∧ z2.ok H) fun i => [z1.vals.getD i .non, z2.vals.getD i .non]) [N + 4, N + 2, N + 3, N, N + 1] (N + 4)
      (fun i h => IsZip h (N + 4) (N + 2) (N + 3) .none ∧ IsTupOf2 h (N + 2) (.ref N) (.ref (N + 1)) ∧ (∃ a1 a2, IsTupOf2 h (N + 3) a1 a2) ∧ z1.at h N i ∧ z2.at h (N + 1) i) := by
  refine turn_of (by simp) (fun i => by simp) ?_ ?_ ?_ ?_
  · intro i h ⟨h1, h2, ⟨_, _, h3⟩, h4, h5⟩ b hb
    simp only [List.mem_cons, List.not_mem_nil, or_false] at hb
    rcases hb with rfl | rfl | rfl | rfl | rfl
    · exact ⟨_, h1, fun v q => nomatch q⟩
    · exact ⟨_, h2, fun v q => nomatch q⟩
    · exact ⟨_, h3, fun v q => nomatch q⟩
    · exact h4.obj
    · exact h5.obj
  · intro i h h' ⟨h1, h2, ⟨a1, a2, h3⟩, h4, h5⟩ k
    exact ⟨k _ (by simp) _ h1, k _ (by simp) _ h2, ⟨a1, a2, k _ (by simp) _ h3⟩, h4.keep (k _ (by simp)), h5.keep (k _ (by simp))⟩
  · intro A i s Q E ⟨h1, _⟩ hq
    exact wpAny_pyIter_zip h1 hq
  · intro X hP hw hK hc i pins s σ H I hf ⟨h1, h2, h3, h4, h5⟩ hok
    subst hP hw
    obtain ⟨fp1, P1, Z1, D1, q1, q2, q3, q4, q5⟩ := draws_of I (I.ok.hd hc) hok.1 (hf N (by simp)).1 h4
    obtain ⟨fp2, P2, Z2, D2, r1, r2, r3, r4, r5⟩ := draws_of I (I.ok.hd hc) hok.2 (hf (N + 1) (by simp)).1 h5
    have n1 : ∀ j : Nat, j ≠ 0 → H (N + j : Nat) = none → (N + j : Nat) ∉ fp1 := fun j hj hn q => by
      rcases q5 _ q with z | z
      · have z' : (N + j : Nat) = N := z
        omega
      · exact z hn
    have n2 : ∀ j : Nat, j ≠ 1 → H (N + j : Nat) = none → (N + j : Nat) ∉ fp2 := fun j hj hn q => by
      rcases r5 _ q with z | z
      · have z' : (N + j : Nat) = N + 1 := z
        omega
      · exact z hn
    have S : ZipSep2 (N + 4) (N + 2) (N + 3) N (N + 1) fp1 fp2 :=
      { TIz := show (N + 2 : Nat) ≠ N + 4 by omega, TOz := show (N + 3 : Nat) ≠ N + 4 by omega, TITO := show (N + 2 : Nat) ≠ N + 3 by omega, TIi1 := show (N + 2 : Nat) ≠ N by omega, mem1 := q4, zf1 := n1 4 (by omega) (hf _ (by simp)).1, Tf1 := n1 3 (by omega) (hf _ (by simp)).1,
        TIi2 := show (N + 2 : Nat) ≠ N + 1 by omega, mem2 := r4, zf2 := n2 4 (by omega) (hf _ (by simp)).1, Tf2 := n2 3 (by omega) (hf _ (by simp)).1, sep1_2 := n2 0 (by omega) (hf N (by simp)).1, sep2_1 := n1 1 (by omega) (hf _ (by simp)).1 }
    refine ⟨_, _, _, _, _, WalksT.zipD2 S D1 D2, ⟨h1, h2, h3, q1, r1⟩, fun b hb => ?_, fun j vals q => ?_, fun j h q _ => ⟨q.1, q.2.1, q.2.2.1, q2 j h q.2.2.2.1, r2 j h q.2.2.2.2⟩⟩
    · simp only [List.mem_cons, List.not_mem_nil, or_false] at hb ⊢
      rcases hb with rfl | rfl | rfl | rfl <;> simp
    · obtain ⟨x1, x2, hx1, hx2, rfl⟩ := q
      obtain ⟨y1, hy1, ry1⟩ := q3 j x1 hx1
      obtain ⟨y2, hy2, ry2⟩ := r3 j x2 hx2
      refine ⟨[x1, x2], rfl, .cons ?_ (.cons ?_ .nil)⟩
      · rw [List.getD_eq_getElem?_getD, hy1]
        exact ry1
      · rw [List.getD_eq_getElem?_getD, hy2]
        exact ry2
section
variable {X : Cx} {pins : List (Addr × Obj)} {σ : L2.St} {H : Hp} {s : Shared}
def iZ2 (ta : TA) : TI := fun σ H R => ta σ H fun vs H1 => ∃ z1 z2 : Src, vs = [z1.v, z2.v] ∧ z1.ok H1 ∧ z2.ok H1 ∧ R (ItP (min z1.vals.length z2.vals.length) (fun H => z1.ok H ∧ z2.ok H) fun i => [z1.vals.getD i .non, z2.vals.getD i .non]) H1
theorem pi_z2 {e e2 : Expr} {ta : TA} {p pos tpos : Pos} {elts : List Expr} {kk : Nat} (hg : Gl X "zip") (hm : X.mg "zip" = none) (ha : PA X [e, e2] ta) (hs : starEach [e, e2] X.env = (false, eval e X.env) :: starEach [e2] X.env := by rfl)
    (hpl : (backTo pos (starEach [e2] X.env)).any (·.1) = false := by rfl) : PI X (.Tuple elts kk tpos) (.Call (.Name "zip" p) [e, e2] [] pos) (iZ2 ta) := by
  refine ⟨fun pins s σ H R I h => ?_⟩
  refine Call_ (ld_blt I hg hm PyProof.Rows.boot_zip (PyProof.Rows.callWith_type1 (thn (ha.run pos pins s σ H _ I h) fun us s1 ⟨vs, H1, I1, r1, q1⟩ => ?_) hs hpl))
  obtain ⟨z1, z2, rfl, hz1, hz2, q⟩ := q1
  obtain ⟨u1, u2, rfl, ru1, ru2⟩ := vals2 r1
  obtain ⟨o1, Hh1, B1, hH1, hat1⟩ := begins_of I1 hz1 ru1
  obtain ⟨o2, Hh2, B2, hH2, hat2⟩ := begins_of I1 hz2 ru2
  refine zip_begins2 B1 B2 hH1 hH2 fun h2 a1 a2 a3 g1 g2 hsz hk => wpAny_pyIter_zip a1 ?_
  have I2 : Inv X pins σ H1 { s1 with heap := h2 } := I1.kept (t' := s1.toks) hk
  refine ⟨s1.heap.objs.size + 4, [s1.heap.objs.size + 4, s1.heap.objs.size + 2, s1.heap.objs.size + 3, s1.heap.objs.size, s1.heap.objs.size + 1], _, _, H1, rfl, I2, turn_z2 z1 z2, ⟨a1, a2, ⟨_, _, a3⟩, hat1 _ _ g1, hat2 _ _ g2⟩, fun b hb => ?_, q⟩
  have hle : s1.heap.objs.size ≤ b := by
    simp only [List.mem_cons, List.not_mem_nil, or_false] at hb
    rcases hb with w | w | w | w | w <;> rw [w] <;> first | exact Nat.le_add_right _ _ | exact Nat.le_refl _
  exact I1.fpOk hle (I1.hok.fresh hle)
end
section
variable {X : Cx} {C : Cfg} {F G0 G G' H H' : Hp} {pn : Option (Nat × Addr)} {σ : St} {e e' : Env'} {x y : Ex} {a b : Expr} {p pos tpos : Pos} {elts : List Expr} {kk : Nat}
def zipL : List D → List D → List D
  | x :: xs, y :: ys => .tup [x, y] :: zipL xs ys
  | _, _ => []
theorem zipL_get : ∀ {l m : List D} {j : Nat} {d : D}, (zipL l m)[j]? = some d → ∃ x y, l[j]? = some x ∧ m[j]? = some y ∧ d = .tup [x, y]
  | [], _, j, d, h => by simp [zipL] at h
  | _ :: _, [], j, d, h => by simp [zipL] at h
  | x :: l, y :: m, 0, d, h => ⟨x, y, rfl, rfl, (Option.some.inj (show some _ = some _ from h)).symm⟩
  | x :: l, y :: m, j + 1, d, h => zipL_get (l := l) (m := m) (j := j) (by simpa [zipL] using h)
theorem zipL_len : ∀ (l m : List D), (zipL l m).length = min l.length m.length
  | [], m => by simp [zipL]
  | _ :: _, [] => by simp [zipL]
  | x :: l, y :: m => by
    show (zipL l m).length + 1 = min (l.length + 1) (m.length + 1)
    rw [zipL_len l m]
    omega
def zip2F : List D → Option (List D) := fun ds => match ds with
  | [d, e] => (match srcD d, srcD e with
    | some l, some m => some (zipL l m)
    | _, _ => none)
  | _ => none
theorem ci_zip2 (hg : Gl X "zip") (hm : X.mg "zip" = none) (ha : PA X [a, b] (tA C [x, y])) (hs : starEach [a, b] X.env = (false, eval a X.env) :: starEach [b] X.env := by rfl) (hpl : (backTo pos (starEach [b] X.env)).any (·.1) = false := by rfl) :
    PI X (.Tuple elts kk tpos) (.Call (.Name "zip" p) [a, b] [] pos) (tI C zip2F [x, y]) := (pi_z2 hg hm ha hs hpl).imp fun σ H R q => by
    obtain ⟨F, G0, G, pn, e, rs, e1, ds, e2, items, Rr, q1, q2, q3, k⟩ := q
    refine ⟨F, G0, G, pn, e, rs, e1, Rr, q1, fun vs G1 H1 R1 s1 r1 => ?_⟩
    obtain ⟨G2, s2, R2, r2, _⟩ := Rel.settles R1 r1 q2
    unfold zip2F at q3
    split at q3
    · rename_i d1 d2
      split at q3
      · rename_i l m hl hm2
        cases q3
        cases r2 with
        | cons ra rb =>
          cases rb with
          | cons rb rc =>
            cases rc
            obtain ⟨z1, hv1, hz1, rl1⟩ := src_of ra hl
            obtain ⟨z2, hv2, hz2, rl2⟩ := src_of rb hm2
            refine ⟨z1, z2, by rw [hv1, hv2], hz1.mono R2.gh, hz2.mono R2.gh, k _ G2 H1 R2 (s1.trans s2) (walks_P (by rw [zipL_len, rl1.length, rl2.length]) (fun G3 H3 t1 t2 => ⟨hz1.mono (t1.trans t2), hz2.mono (t1.trans t2)⟩) fun i d h => ?_)⟩
            obtain ⟨y1, y2, h1, h2, rfl⟩ := zipL_get h
            obtain ⟨w1, w2, w3⟩ := rl1.getD h1
            obtain ⟨v1, v2, v3⟩ := rl2.getD h2
            refine ⟨_, rfl, .cons ?_ (.cons ?_ .nil)⟩
            · rw [List.getD_eq_getElem?_getD, w2]; exact w3
            · rw [List.getD_eq_getElem?_getD, v2]; exact v3
      · cases q3
    · cases q3
end
end Mi

/-! displays with stars; a two-generator comprehension that is stored. -/
namespace Mi
open PySem PySem.Spec PyProof.Rows L2 GxR
section
variable {X : Cx} {C : Cfg} {F G0 G G' H H' : Hp} {pn : Option (Nat × Addr)} {σ : St} {e e' : Env'} {x y : Ex} {a b : Expr} {xs : List Ex} {es : List Expr} {fl : List Bool} {p pos : Pos}
/-- the parts of a display -/
def tD (C : Cfg) (fl : List Bool) (xs : List Ex) : TA := fun σ H Q => ∃ (F G0 G : Hp) (pn : Option (Nat × Addr)) (e : Env') (ds : List D) (e' : Env'), Rel C F G0 G H pn σ e ∧ evd fl xs e = some (ds, e') ∧
  ∀ vs G' H', Rel C F G0 G' H' pn σ e' → Same G G' → RepL C.K G' vs ds → Q vs H'
theorem cd_nil : PA X [] (tD C fl []) := pa_nil.imp fun σ H Q q => by
  obtain ⟨F, G0, G, pn, e, ds, e', R, he, k⟩ := q
  unfold evd at he
  cases he
  exact k [] G H R (Same.refl G) .nil
theorem cd_cons (ha : PE X a (tE C x)) (hr : PA X es (tD C fl xs)) (hs : starEach (a :: es) X.env = (false, eval a X.env) :: starEach es X.env := by rfl) : PA X (a :: es) (tD C (false :: fl) (x :: xs)) := (pa_cons ha hr hs).imp fun σ H Q q => by
  obtain ⟨F, G0, G, pn, e, ds, e', R, he, k⟩ := q
  unfold evd at he
  split at he
  · rename_i r e1 q1
    dsimp only at he
    split at he
    · rename_i d e2 q2
      split at he
      · rename_i ds3 e3 q3
        cases he
        refine ⟨F, G0, G, pn, e, r, e1, R, q1, fun v G1 H1 R1 s1 rv => ?_⟩
        obtain ⟨G2, s2, R2, r2, _⟩ := R1.settle rv q2
        exact ⟨F, G0, G2, pn, e2, ds3, _, R2, q3, fun vs G3 H3 R3 s3 r3 => k (v :: vs) G3 H3 R3 ((s1.trans s2).trans s3) (.cons (r2.mono s3) r3)⟩
      · cases he
    · cases he
  · cases he
theorem cd_star (hK : C.K = X.K) (ha : PE X a (tE C x)) (hr : PA X es (tD C fl xs)) (hs : starEach (.Starred a p :: es) X.env = (true, eval a X.env) :: starEach es X.env := by rfl) : PA X (.Starred a p :: es) (tD C (true :: fl) (x :: xs)) := (StX.pa_star ha hr hs).imp fun σ H Q q => by
  obtain ⟨F, G0, G, pn, e, ds, e', R, he, k⟩ := q
  unfold evd at he
  split at he
  · rename_i r e1 q1
    dsimp only at he
    split at he
    · rename_i d q2
      split at he
      · rename_i l q3
        split at he
        · rename_i ds3 e3 q4
          cases he
          refine ⟨F, G0, G, pn, e, r, e1, R, q1, fun v G1 H1 R1 s1 rv => ?_⟩
          have rt := R1.get rv q2
          have fin : ∀ {pp : Addr} {zs : List V}, v = .ref pp → (SqT X.K H1 pp zs ∨ SqL X.K H1 pp zs) → RepL C.K G1 zs l → StX.tStar X.K (fun σ H Q => Q v H) (tD C fl xs) σ H1 Q := fun {pp zs} hv hq rl => by
            refine ⟨pp, zs, hv, hq, F, G0, G1, pn, e1, ds3, e', R1, q4, fun vs G3 H3 R3 s3 r3 => k (zs ++ vs) G3 H3 R3 (s1.trans s3) ((rl.mono s3).append r3)⟩
          unfold starD at q3
          split at q3
          · cases q3
            cases rt with
            | lst h1 rl => exact fin rfl (.inr (SqL.of h1)) rl
          · cases q3
            cases rt with
            | tup g h1 rl => exact fin rfl (.inl (SqT.of h1)) rl
          · cases q3
        · cases he
      · cases he
    · cases he
  · cases he
def lstS : List D → Option D := fun ds => if ds.length ≤ 16000000 then some (.lst ds) else none
def tupS : List D → Option D := fun ds => if ds.length ≤ 16000000 then some (.tup ds) else none
theorem ev_dsp {f : List D → Option D} {r : Rv} (h : ev (.dsp f fl xs) e = some (r, e')) : ∃ ds d, evd fl xs e = some (ds, e') ∧ f ds = some d ∧ r = .pers d := by
  unfold ev at h
  split at h
  · rename_i ds e1 q
    split at h
    · rename_i d q2
      cases h
      exact ⟨ds, d, q, q2, rfl⟩
    · cases h
  · cases h
theorem cf_lstS (h : PA X es (tD C fl xs)) : PE X (.List es pos) (tF C (.dsp lstS fl xs)) := (pe_lst h).imp fun σ H Q q => by
  obtain ⟨F, G0, G, pn, e, d, e', R, he, k⟩ := q
  obtain ⟨ds, d', q1, q2, q3⟩ := ev_dsp he
  cases q3
  refine ⟨F, G0, G, pn, e, ds, e', R, q1, fun vs G1 H1 R1 s1 r1 => ?_⟩
  unfold lstS at q2
  split at q2
  · rename_i hz
    cases q2
    exact ⟨by rw [r1.length]; exact lim16 hz, fun pp hp => own_of_new R1 s1 k pp _ hp (.lst r1)⟩
  · cases q2
theorem dsp_pers {f : List D → Option D} : ∀ e r e', ev (.dsp f fl xs) e = some (r, e') → ∃ d, r = .pers d := fun e r e' h => by
  obtain ⟨_, d, _, _, h2⟩ := ev_dsp h
  exact ⟨d, h2⟩
theorem ce_lstS (h : PA X es (tD C fl xs)) : PE X (.List es pos) (tE C (.dsp lstS fl xs)) := cf_ce (cf_lstS h) dsp_pers
theorem ce_tupS {n : Nat} (h : PA X es (tD C fl xs)) : PE X (.Tuple es n pos) (tE C (.dsp tupS fl xs)) := (pe_tup h).imp fun σ H Q q => by
  obtain ⟨F, G0, G, pn, e, r, e', R, he, k⟩ := q
  obtain ⟨ds, d', q1, q2, rfl⟩ := ev_dsp he
  refine ⟨F, G0, G, pn, e, ds, e', R, q1, fun vs G1 H1 R1 s1 r1 => ?_⟩
  unfold tupS at q2
  split at q2
  · rename_i hz
    cases q2
    refine ⟨by rw [r1.length]; exact lim16 hz, fun pp hp => ?_⟩
    have gp := R1.gh.free hp
    exact k (.ref pp) (upd G1 pp (.tup vs)) (upd H1 pp (.tup vs)) (R1.grow (grow_new R1.gh R1.tabs hp)) (s1.trans (grow_new R1.gh R1.tabs hp).gg) (.tup upd_same (r1.mono fun b u hb => by rw [upd_ne (ne_of_none hb gp)]; exact hb))
  · cases q2
end
end Mi

/-! max, min, sum of numbers that stand in a list or a tuple. -/
namespace Mi
open PySem PySem.Spec PyProof.Rows L2 GxR
def intsOf : List D → Option (List Int)
  | [] => some []
  | .int i :: ds => (intsOf ds).map fun l => i :: l
  | _ :: _ => none
theorem intsOf_map : ∀ {ds : List D} {l : List Int}, intsOf ds = some l → ds = l.map D.int
  | [], l, h => by cases h; rfl
  | .int i :: ds, l, h => by
    unfold intsOf at h
    cases q : intsOf ds with
    | none => rw [q] at h; cases h
    | some m =>
      rw [q] at h
      cases h
      rw [intsOf_map q] <;> rfl
  | .non :: ds, l, h => by unfold intsOf at h; cases h
  | .bl _ :: ds, l, h => by unfold intsOf at h; cases h
  | .str _ :: ds, l, h => by unfold intsOf at h; cases h
  | .tup _ :: ds, l, h => by unfold intsOf at h; cases h
  | .lst _ :: ds, l, h => by unfold intsOf at h; cases h
  | .dic _ _ :: ds, l, h => by unfold intsOf at h; cases h
  | .scr _ :: ds, l, h => by unfold intsOf at h; cases h
theorem intsOf_int : ∀ l : List Int, intsOf (l.map D.int) = some l
  | [] => rfl
  | i :: l => by rw [List.map_cons, intsOf, intsOf_int l]; rfl
section
variable {X : Cx} {C : Cfg}
theorem dp_ints {K : Frag} {H : Hp} : ∀ ns : List Int, DpAll K H (ns.map V.int) (ns.map PyData.int)
  | [] => .nil
  | n :: ns => .cons (.int n) (dp_ints ns)
theorem alike_ints (ns : List Int) : W.AlikeAll (ns.map PyData.int) := by
  refine ⟨fun x hx y hy => ?_, fun x hx => ?_⟩
  · obtain ⟨i, _, rfl⟩ := List.mem_map.mp hx
    obtain ⟨j, _, rfl⟩ := List.mem_map.mp hy
    simp [W.alike]
  · obtain ⟨i, _, rfl⟩ := List.mem_map.mp hx
    exact fun z => by cases z
theorem depth_ints : ∀ ns : List Int, PyData.depthAll (ns.map PyData.int) = 0
  | [] => by simp [PyData.depthAll]
  | n :: ns => by simp [PyData.depthAll, PyData.depth, depth_ints ns]
/-- numbers in a list or a tuple -/
def rNums (K : Frag) (f : Int → List Int → Int) : List V → Hp → VK → Prop := fun vs H Q => ∃ (a : Addr) (n : Int) (ns : List Int), vs = [.ref a] ∧ (SqL K H a ((n :: ns).map V.int) ∨ SqT K H a ((n :: ns).map V.int)) ∧ Q (.int (f n ns)) H
theorem cr_maxI (hc : X.calm = true) (hu : X.A.units + 100 < cLine) : CallR X (.builtin "max") (rNums X.K fun n ns => ns.foldl max n) := by
  intro pins s σ H vs us Q I r h
  obtain ⟨a, n, ns, rfl, hs, q⟩ := h
  rw [Vals.ref1 r]
  have hd := depth_ints (n :: ns)
  have fin : ∀ {v : Value} {h' : Heap} {tk : Nat} {bs : List Addr}, Reads h' v (W.maxD (.int n) (ns.map .int)) bs → (∀ b o, s.heap.get? b = some o → h'.get? b = some o) → EP X pins σ Q v { s with heap := h', toks := tk } := fun {v h' tk bs} hr hk => by
    rw [W.maxD_ints] at hr
    cases hr with
    | int _ t => exact ⟨.int _, H, I.kept hk, ⟨t, rfl⟩, q⟩
  rcases hs with hs | hs
  · obtain ⟨its, rv, hl, _⟩ := I.list hs
    obtain ⟨as, hr⟩ := Dp.readsAll I _ _ its (dp_ints (n :: ns)) rv
    exact W.max_list_data (I.ok.hd hc) hl.isList (by simpa using hr) (alike_ints (n :: ns)) (by rw [show (PyData.int n :: ns.map .int) = (n :: ns).map .int from rfl, hd]; omega) fun i v h' tk bs _ hr hk => fin hr hk
  · obtain ⟨its, rv, hl, _⟩ := I.tuple hs
    obtain ⟨as, hr⟩ := Dp.readsAll I _ _ its (dp_ints (n :: ns)) rv
    exact W.max_tuple_data (I.ok.hd hc) hl (by simpa using hr) (alike_ints (n :: ns)) (by rw [show (PyData.int n :: ns.map .int) = (n :: ns).map .int from rfl, hd]; omega) fun i v h' tk bs _ hr hk => fin hr hk
theorem cr_minI (hc : X.calm = true) (hu : X.A.units + 100 < cLine) : CallR X (.builtin "min") (rNums X.K fun n ns => ns.foldl min n) := by
  intro pins s σ H vs us Q I r h
  obtain ⟨a, n, ns, rfl, hs, q⟩ := h
  rw [Vals.ref1 r]
  have hd := depth_ints (n :: ns)
  have fin : ∀ {v : Value} {h' : Heap} {tk : Nat} {bs : List Addr}, Reads h' v (W.minD (.int n) (ns.map .int)) bs → (∀ b o, s.heap.get? b = some o → h'.get? b = some o) → EP X pins σ Q v { s with heap := h', toks := tk } := fun {v h' tk bs} hr hk => by
    rw [W.minD_ints] at hr
    cases hr with
    | int _ t => exact ⟨.int _, H, I.kept hk, ⟨t, rfl⟩, q⟩
  rcases hs with hs | hs
  · obtain ⟨its, rv, hl, _⟩ := I.list hs
    obtain ⟨as, hr⟩ := Dp.readsAll I _ _ its (dp_ints (n :: ns)) rv
    exact W.min_list_data (I.ok.hd hc) hl.isList (by simpa using hr) (alike_ints (n :: ns)) (by rw [show (PyData.int n :: ns.map .int) = (n :: ns).map .int from rfl, hd]; omega) fun i v h' tk bs _ hr hk => fin hr hk
  · obtain ⟨its, rv, hl, _⟩ := I.tuple hs
    obtain ⟨as, hr⟩ := Dp.readsAll I _ _ its (dp_ints (n :: ns)) rv
    exact W.min_tuple_data (I.ok.hd hc) hl (by simpa using hr) (alike_ints (n :: ns)) (by rw [show (PyData.int n :: ns.map .int) = (n :: ns).map .int from rfl, hd]; omega) fun i v h' tk bs _ hr hk => fin hr hk
def numsF (f : Int → List Int → Int) : List D → Option D
  | [.lst l] => (match intsOf l with
    | some (n :: ns) => some (.int (f n ns))
    | _ => none)
  | [.tup l] => (match intsOf l with
    | some (n :: ns) => some (.int (f n ns))
    | _ => none)
  | _ => none
abbrev maxIF := numsF fun n ns => ns.foldl max n
abbrev minIF := numsF fun n ns => ns.foldl min n
theorem numsF_ok {f : Int → List Int → Int} : OkN C (rNums X.K f) (numsF f) := fun vs ds d G H Q s t r e k => by
  unfold numsF at e
  split at e
  · rename_i l
    split at e
    · rename_i n ns hm
      cases e
      obtain ⟨v, rfl, rv⟩ := repTs_one r
      cases rv with
      | lst q rr =>
        rw [intsOf_map hm] at rr
        exact ⟨_, n, ns, rfl, .inl (SqL.of (by rw [q, rr.ints])), res_flat s t k (.int _)⟩
    · cases e
  · rename_i l
    split at e
    · rename_i n ns hm
      cases e
      obtain ⟨v, rfl, rv⟩ := repTs_one r
      cases rv with
      | tup g q rr =>
        rw [intsOf_map hm] at rr
        exact ⟨_, n, ns, rfl, .inr (SqT.of (by rw [q, rr.ints])), res_flat s t k (.int _)⟩
    · cases e
  · cases e
/-! ### sum -/
def rSumI (K : Frag) : List V → Hp → VK → Prop := fun vs H Q => ∃ (a : Addr) (ns : List Int), vs = [.ref a] ∧ (SqL K H a (ns.map V.int) ∨ SqT K H a (ns.map V.int)) ∧ Q (.int ns.sum) H
theorem cr_sumI (hc : X.calm = true) : CallR X (.builtin "sum") (rSumI X.K) := by
  intro pins s σ H vs us Q I r h
  obtain ⟨a, ns, rfl, hs, q⟩ := h
  rcases hs with hs | hs
  · exact cr_sum hc pins s σ H _ us Q I r ⟨a, ns, rfl, hs, q⟩
  · obtain ⟨its, rv, hl, _⟩ := I.tuple hs
    rw [Vals.ref1 r]
    have hi := rv.ints
    obtain ⟨xs, e⟩ := hi.allInts.items
    have hn : numsOf (intItems xs).toList = ns := by rw [← e]; exact hi.numsOf
    rw [nums_intItems] at hn
    rw [e] at hl
    refine W.ktm_sumG (xs := xs) (I.ok.hd hc) hl fun h' tk t' hk => ⟨.int _, H, I.kept hk, ⟨t', rfl⟩, ?_⟩
    have e2 : preSum (numAt xs) xs.size = ns.sum := by
      rw [preSum_eq, List.take_of_length_le (by simp), hn]
    rw [e2]
    exact q
def sumIF : List D → Option D
  | [.lst l] => (intsOf l).map fun ns => .int ns.sum
  | [.tup l] => (intsOf l).map fun ns => .int ns.sum
  | _ => none
theorem sumIF_ok : OkN C (rSumI X.K) sumIF := fun vs ds d G H Q s t r e k => by
  unfold sumIF at e
  split at e
  · rename_i l
    cases hm : intsOf l with
    | none => rw [hm] at e; cases e
    | some ns =>
      rw [hm] at e
      cases e
      obtain ⟨v, rfl, rv⟩ := repTs_one r
      cases rv with
      | lst q rr =>
        rw [intsOf_map hm] at rr
        exact ⟨_, ns, rfl, .inl (SqL.of (by rw [q, rr.ints])), res_flat s t k (.int _)⟩
  · rename_i l
    cases hm : intsOf l with
    | none => rw [hm] at e; cases e
    | some ns =>
      rw [hm] at e
      cases e
      obtain ⟨v, rfl, rv⟩ := repTs_one r
      cases rv with
      | tup g q rr =>
        rw [intsOf_map hm] at rr
        exact ⟨_, ns, rfl, .inr (SqT.of (by rw [q, rr.ints])), res_flat s t k (.int _)⟩
  · cases e
end
end Mi

/-! two-generator comprehensions that are stored; short forms. -/
namespace Mi
open PySem PySem.Spec PyProof.Rows L2 GxR
theorem hu100 {k : Nat} {A : Around} (hr : Room k A) : A.units + 100 < cLine := by have := hr.un; omega
section
variable {X : Cx} {C : Cfg} {a : Expr} {x : Ex} {xs : List Ex} {pos : Pos}
variable {elt tgx iter tgx2 iter2 : Expr} {ifs ifs2 : List Expr} {scope : Scope} {own : List (Str × Nat)} {g g2 : List D → Option (List D)} {tg tg2 : Tg} {cs cs2 as2 : List Ex} {vs1 : List Nat} {spos py : Pos} {i : Nat} {nm : Str}
theorem cf_lc2E {vs : List Nat} (h : PE X a (tF C (.lc2 g xs vs tg cs g2 as2 vs1 tg2 cs2 x))) : PE X a (tE C (.lc2 g xs vs tg cs g2 as2 vs1 tg2 cs2 x)) := cf_ce h lc2_pers
theorem cs_setLc2O (hc : X.calm = true) (hN : X.N.Nodup) (hy : X.N[i]? = some nm) (hyl : X.env.scope.names.lookup nm = some .local) (hsw : swapsWith (.ListComp elt [⟨tgx, iter, ifs, 0⟩, ⟨tgx2, iter2, ifs2, 0⟩] scope pos) (some (.Name nm py)) spos.line X.env = pure true) (hi : PI X tgx iter (tI C g xs)) (ok : BlkOk X.N X.env.scope scope own)
    (hv : (vs1.all fun i => (own.map (·.2)).contains i) = true)
    (hg : ∀ (s : Shared) (H : Hp) (Cc : Addr) (cl : List (Str × Addr)) (fp : List Addr), PG (X.blk s H scope (compEnvC scope cl Cc X.env) fp) tgx (tG C tg)) (ht : ∀ (s : Shared) (H : Hp) (Cc : Addr) (cl : List (Str × Addr)) (fp : List Addr), PTs (X.blk s H scope (compEnvC scope cl Cc X.env) fp) ifs (tTs C cs))
    (hi1 : ∀ (s : Shared) (H : Hp) (Cc : Addr) (cl : List (Str × Addr)) (fp : List Addr), PI (X.blk s H scope (compEnvC scope cl Cc X.env) fp) tgx2 iter2 (tI C g2 as2))
    (hg1 : ∀ (s : Shared) (H : Hp) (Cc : Addr) (cl : List (Str × Addr)) (fp : List Addr), PG (X.blk s H scope (compEnvC scope cl Cc X.env) fp) tgx2 (tG C tg2)) (ht1 : ∀ (s : Shared) (H : Hp) (Cc : Addr) (cl : List (Str × Addr)) (fp : List Addr), PTs (X.blk s H scope (compEnvC scope cl Cc X.env) fp) ifs2 (tTs C cs2))
    (he : ∀ (s : Shared) (H : Hp) (Cc : Addr) (cl : List (Str × Addr)) (fp : List Addr), PE (X.blk s H scope (compEnvC scope cl Cc X.env) fp) elt (tE C x)) (hsl : (tg.slots.all fun i => (own.map (·.2)).contains i) = true) (hsl2 : (tg2.slots.all fun i => vs1.contains i) = true)
    (hs : ∀ x, foldedSetIterable iter X.env x = pure x := by intro _; rfl) (hs1 : ∀ env x, foldedSetIterable iter2 env x = pure x := by intro _ _; rfl) :
    PS X (.Assign [.Name nm py] (.ListComp elt [⟨tgx, iter, ifs, 0⟩, ⟨tgx2, iter2, ifs2, 0⟩] scope pos) spos) (tS C (.setO i (.lc2 g xs (own.map (·.2)) tg cs g2 as2 vs1 tg2 cs2 x))) :=
  (ps_setLc2 hc hN hy hyl hsw hi ok (fun i hi => List.contains_iff_mem.mp (List.all_eq_true.mp hv i hi)) hg ht hi1 hg1 ht1 he hs hs1).imp fun D σ H q => setO_of (fun _ _ _ h =>
    tLc2_of (fun i hi => List.contains_iff_mem.mp (List.all_eq_true.mp hsl i hi)) (fun i hi => List.contains_iff_mem.mp (List.all_eq_true.mp hsl2 i hi)) h) q
theorem cs_setLc2 (hc : X.calm = true) (hN : X.N.Nodup) (hy : X.N[i]? = some nm) (hyl : X.env.scope.names.lookup nm = some .local) (hsw : swapsWith (.ListComp elt [⟨tgx, iter, ifs, 0⟩, ⟨tgx2, iter2, ifs2, 0⟩] scope pos) (some (.Name nm py)) spos.line X.env = pure true) (hi : PI X tgx iter (tI C g xs)) (ok : BlkOk X.N X.env.scope scope own)
    (hv : (vs1.all fun i => (own.map (·.2)).contains i) = true)
    (hg : ∀ (s : Shared) (H : Hp) (Cc : Addr) (cl : List (Str × Addr)) (fp : List Addr), PG (X.blk s H scope (compEnvC scope cl Cc X.env) fp) tgx (tG C tg)) (ht : ∀ (s : Shared) (H : Hp) (Cc : Addr) (cl : List (Str × Addr)) (fp : List Addr), PTs (X.blk s H scope (compEnvC scope cl Cc X.env) fp) ifs (tTs C cs))
    (hi1 : ∀ (s : Shared) (H : Hp) (Cc : Addr) (cl : List (Str × Addr)) (fp : List Addr), PI (X.blk s H scope (compEnvC scope cl Cc X.env) fp) tgx2 iter2 (tI C g2 as2))
    (hg1 : ∀ (s : Shared) (H : Hp) (Cc : Addr) (cl : List (Str × Addr)) (fp : List Addr), PG (X.blk s H scope (compEnvC scope cl Cc X.env) fp) tgx2 (tG C tg2)) (ht1 : ∀ (s : Shared) (H : Hp) (Cc : Addr) (cl : List (Str × Addr)) (fp : List Addr), PTs (X.blk s H scope (compEnvC scope cl Cc X.env) fp) ifs2 (tTs C cs2))
    (he : ∀ (s : Shared) (H : Hp) (Cc : Addr) (cl : List (Str × Addr)) (fp : List Addr), PE (X.blk s H scope (compEnvC scope cl Cc X.env) fp) elt (tE C x)) (hsl : (tg.slots.all fun i => (own.map (·.2)).contains i) = true) (hsl2 : (tg2.slots.all fun i => vs1.contains i) = true)
    (hs : ∀ x, foldedSetIterable iter X.env x = pure x := by intro _; rfl) (hs1 : ∀ env x, foldedSetIterable iter2 env x = pure x := by intro _ _; rfl) :
    PS X (.Assign [.Name nm py] (.ListComp elt [⟨tgx, iter, ifs, 0⟩, ⟨tgx2, iter2, ifs2, 0⟩] scope pos) spos) (tS C (.set (.nm i) (.lc2 g xs (own.map (·.2)) tg cs g2 as2 vs1 tg2 cs2 x))) :=
  (ps_setLc2 hc hN hy hyl hsw hi ok (fun i hi => List.contains_iff_mem.mp (List.all_eq_true.mp hv i hi)) hg ht hi1 hg1 ht1 he hs hs1).imp fun D σ H q => set_of (fun _ _ _ h =>
    tLc2_of (fun i hi => List.contains_iff_mem.mp (List.all_eq_true.mp hsl i hi)) (fun i hi => List.contains_iff_mem.mp (List.all_eq_true.mp hsl2 i hi)) (tF_tE h lc2_pers)) gName_of q
end
end Mi

/-! find, endswith; gcd. -/
namespace Mi
open PySem PySem.Spec PyProof.Rows L2 GxR
theorem findA_spec (c : Nat) : ∀ (s : List Nat) (i : Nat), ((∀ j : Nat, s[j]? ≠ some c) ∧ findA c s i = -1) ∨ ∃ j : Nat, s[j]? = some c ∧ (∀ k : Nat, k < j → s[k]? ≠ some c) ∧ findA c s i = ((i + j : Nat) : Int)
  | [], i => .inl ⟨fun j => by simp, rfl⟩
  | a :: s, i => by
    unfold findA
    by_cases hc : a = c
    · rw [if_pos hc]
      exact .inr ⟨0, by simp [hc], fun k hk => absurd hk (Nat.not_lt_zero k), by rw [Nat.add_zero]⟩
    · rw [if_neg hc]
      rcases findA_spec c s (i + 1) with ⟨h1, h2⟩ | ⟨j, h1, h2, h3⟩
      · refine .inl ⟨fun j => ?_, h2⟩
        cases j with
        | zero => simpa using hc
        | succ j => exact h1 j
      · refine .inr ⟨j + 1, h1, fun k hk => ?_, by rw [h3]; congr 1; omega⟩
        cases k with
        | zero => simpa using hc
        | succ k => exact h2 k (by omega)
theorem find_is (s : List Nat) (c : Nat) : Txt.find ⟨s.toArray⟩ ⟨#[c]⟩ = findL s c := by
  unfold Txt.find findL
  rcases StrLaws.occ_head ⟨s.toArray⟩ ⟨#[c]⟩ 1 (Nat.le_refl 1) with ⟨h1, h2⟩ | ⟨i, r, h1, h2, h3⟩
  · rw [h1]
    rcases findA_spec c s 0 with ⟨_, k2⟩ | ⟨j, k1, _⟩
    · exact k2.symm
    · exact absurd ((at_one s c j).mpr k1) (h2 j)
  · rw [h1]
    have e1 := (at_one s c i).mp h2
    rcases findA_spec c s 0 with ⟨k1, _⟩ | ⟨j, k1, k2, k3⟩
    · exact absurd e1 (k1 i)
    · have : i = j := by
        rcases Nat.lt_trichotomy i j with z | z | z
        · exact absurd e1 (k2 i z)
        · exact z
        · exact absurd ((at_one s c j).mpr k1) (h3 j z)
      rw [k3, this]
      show (j : Int) = ((0 + j : Nat) : Int)
      rw [Nat.zero_add]
def endsL (s t : List Nat) : Bool := decide (t.length ≤ s.length) && (s.drop (s.length - t.length) == t)
theorem ends_is (s t : List Nat) (ht : t ≠ []) : Txt.endswith ⟨s.toArray⟩ ⟨t.toArray⟩ = endsL s t := by
  have e1 : TL.tl (⟨t.toArray⟩ : Str) = t := strOf t
  have e2 : TL.tl (⟨s.toArray⟩ : Str) = s := strOf s
  have l1 : (⟨t.toArray⟩ : Str).length = t.length := strLen t
  have l2 : (⟨s.toArray⟩ : Str).length = s.length := strLen s
  have h := TL.at_iff (x := ⟨s.toArray⟩) (y := ⟨t.toArray⟩) (by rw [e1]; exact ht) (s.length - t.length)
  rw [e1, e2] at h
  unfold Txt.endswith endsL
  rw [l1, l2, Nat.zero_add]
  by_cases hl : t.length ≤ s.length
  · have e3 : (s.drop (s.length - t.length)).take t.length = s.drop (s.length - t.length) := List.take_of_length_le (by rw [List.length_drop]; omega)
    unfold TL.pre at h
    rw [e3] at h
    rw [decide_eq_true hl, Bool.true_and, Bool.true_and, Bool.eq_iff_iff, ← h]
    unfold StrLaws.At
    rw [l1, l2]
    constructor
    · exact fun q => ⟨by omega, q⟩
    · exact fun q => q.2
  · rw [decide_eq_false hl]
    rfl
section
variable {X : Cx} {C : Cfg}
def findF : List D → Option D
  | [.str s, .str [c]] => some (.int (findL s c))
  | _ => none
def endsF : List D → Option D
  | [.str s, .str (c :: t)] => some (.bl (endsL s (c :: t)))
  | _ => none
theorem findF_str : ∀ ds d, findF ds = some d → ∃ s ds2, ds = .str s :: ds2 := fun ds d h => by
  unfold findF at h
  split at h
  · exact ⟨_, _, rfl⟩
  · cases h
theorem endsF_str : ∀ ds d, endsF ds = some d → ∃ s ds2, ds = .str s :: ds2 := fun ds d h => by
  unfold endsF at h
  split at h
  · exact ⟨_, _, rfl⟩
  · cases h
theorem findF_ok : OkN C (fun vs H Q => ∃ v us, vs = v :: us ∧ (∃ a b, v = .str a ∧ us = [.str b] ∧ Q (.int (Txt.find a b)) H)) findF := fun vs ds d G H Q s t r e k => by
  unfold findF at e
  split at e
  · cases e
    obtain ⟨v, w, rfl, rv, rw'⟩ := repTs_two r
    cases rv
    cases rw'
    exact ⟨_, _, rfl, _, _, rfl, rfl, by rw [find_is]; exact res_flat s t k (.int _)⟩
  · cases e
theorem endsF_ok : OkN C (fun vs H Q => ∃ v us, vs = v :: us ∧ (∃ a b, v = .str a ∧ us = [.str b] ∧ Q (.bl (Txt.endswith a b)) H)) endsF := fun vs ds d G H Q s t r e k => by
  unfold endsF at e
  split at e
  · cases e
    obtain ⟨v, w, rfl, rv, rw'⟩ := repTs_two r
    cases rv
    cases rw'
    exact ⟨_, _, rfl, _, _, rfl, rfl, by rw [ends_is _ _ (by simp)]; exact res_flat s t k (.bl _)⟩
  · cases e
/-! ### gcd -/
def gcdF : List D → Option D
  | [.int a, .int b] => some (.int ((Nat.gcd a.natAbs b.natAbs : Nat) : Int))
  | _ => none
theorem gcdF_ok : OkN C rGcd gcdF := fun vs ds d G H Q s t r e k => by
  unfold gcdF at e
  split at e
  · cases e
    obtain ⟨v, w, rfl, rv, rw'⟩ := repTs_two r
    cases rv
    cases rw'
    exact ⟨_, _, rfl, res_flat s t k (.int _)⟩
  · cases e
end
end Mi

/-! a, b, c = x, y, z. -/
namespace Mi
open PySem PySem.Spec PyProof.Rows L2 GxR
section
variable {X : Cx} {C : Cfg} {a b c : Expr} {x y z : Ex} {pos : Pos}
theorem cs_par3 {i j l : Nat} {nx ny nz : Str} {px py pz pt : Pos} {kt k2 : Nat} {pt2 : Pos} (hc : X.calm = true) (hN : X.N.Nodup) (hi : X.N[i]? = some nx) (hj : X.N[j]? = some ny) (hl : X.N[l]? = some nz) (hij : i ≠ j) (hil : i ≠ l) (hjl : j ≠ l)
    (hx : X.env.scope.names.lookup nx = some .local) (hy : X.env.scope.names.lookup ny = some .local) (hz : X.env.scope.names.lookup nz = some .local) (ha : PA X [a, b, c] (tA C [x, y, z]))
    (hw : swappedStores [.Tuple [.Name nx px, .Name ny py, .Name nz pz] kt pt] (.Tuple [a, b, c] k2 pt2) X.env = pure (some [nx, ny, nz]))
    (hs : swapsWithSole [.Tuple [.Name nx px, .Name ny py, .Name nz pz] kt pt] (.Tuple [a, b, c] k2 pt2) pos.line X.env = pure false := by rfl) :
    PS X (.Assign [.Tuple [.Name nx px, .Name ny py, .Name nz pz] kt pt] (.Tuple [a, b, c] k2 pt2) pos) (tS C (.set (.tp [.nm i, .nm j, .nm l]) (.mk tupF1 [x, y, z]))) := (ps_par3 hc hN hi hj hl hij hil hjl hx hy hz ha hw hs).imp fun D σ H q => by
  obtain ⟨F, G0, G, pn, e, o, R, he, k⟩ := q
  unfold ex at he
  split at he
  · rename_i r e1 q1
    obtain ⟨rs, e0, ds, d, h1, h2, h3, rfl⟩ := ev_mk q1
    unfold Rv.settle at he
    dsimp only at he
    split at he
    · rename_i e3 q3
      cases he
      refine ⟨F, G0, G, pn, e, rs, e0, R, h1, fun vs G1 H1 R1 s1 r1 => ?_⟩
      obtain ⟨G2, s2, R2, r2, _⟩ := Rel.settles R1 r1 h2
      unfold tupF1 at h3
      split at h3
      · cases h3
        have hlen : ds.length = 3 := by rw [settles_len h2, evs_len h1]; rfl
        cases r2 with
        | cons ra rb =>
          cases rb with
          | cons rb rc =>
            cases rc with
            | cons rc rd =>
              cases rd with
              | cons _ _ => simp at hlen
              | nil =>
                unfold Tg.bind at q3
                unfold Tg.binds at q3
                split at q3
                · rename_i e4 q4
                  unfold Tg.binds at q3
                  split at q3
                  · rename_i e5 q5
                    unfold Tg.binds at q3
                    split at q3
                    · rename_i e6 q6
                      unfold Tg.binds at q3
                      cases q3
                      obtain ⟨b0, g0, n0, rfl⟩ := bind_nm q4
                      obtain ⟨b1, g1, n1, rfl⟩ := bind_nm q5
                      obtain ⟨b2, g2, n2, rfl⟩ := bind_nm q6
                      exact ⟨_, _, _, rfl, k _ G2 H1 (((R2.put g0 n0 ra).put g1 n1 rb).put g2 n2 rc) (s1.trans s2)⟩
                    · cases q3
                  · cases q3
                · cases q3
            | nil => simp at hlen
          | nil => simp at hlen
        | nil => simp at hlen
      · cases h3
    · cases he
  · cases he
end
end Mi

/-! is, is not of truth values. -/
namespace Mi
open PySem PySem.Spec PyProof.Rows L2 GxR
section
variable {X : Cx} {C : Cfg}
def isBF : List D → Option D
  | [.bl a, .bl b] => some (.bl (decide (a = b)))
  | _ => none
def notBF : List D → Option D
  | [.bl a, .bl b] => some (.bl (!decide (a = b)))
  | _ => none
theorem isBF_two : Two isBF := fun ds d h => by
  unfold isBF at h
  split at h <;> first | rfl | cases h
theorem notBF_two : Two notBF := fun ds d h => by
  unfold notBF at h
  split at h <;> first | rfl | cases h
theorem isBF_boo : Boo isBF := fun ds d h => by
  unfold isBF at h
  split at h <;> first | (cases h; exact ⟨_, rfl⟩) | cases h
theorem notBF_boo : Boo notBF := fun ds d h => by
  unfold notBF at h
  split at h <;> first | (cases h; exact ⟨_, rfl⟩) | cases h
theorem isBF_ok : Ok2 C rIsB isBF := fun x y a b d G H Q s t r1 r2 e k => by
  unfold isBF at e
  split at e
  · rename_i i j hq
    cases hq
    cases e
    cases r1
    cases r2
    exact ⟨i, j, rfl, rfl, res_flat s t k (.bl _)⟩
  · cases e
theorem notBF_ok : Ok2 C rNotB notBF := fun x y a b d G H Q s t r1 r2 e k => by
  unfold notBF at e
  split at e
  · rename_i i j hq
    cases hq
    cases e
    cases r1
    cases r2
    exact ⟨i, j, rfl, rfl, res_flat s t k (.bl _)⟩
  · cases e
end
end Mi

/-! a, b = x, y where some values are new things of one's own. -/
namespace Mi
open PySem PySem.Spec PyProof.Rows L2 GxR
/-- own things that no name holds yet, side by side with known ones; the frames lie one over another -/
inductive Flo (C : Cfg) (G' : Hp) : Hp → Hp → Hp → Hp → List Bool → List V → List D → Prop
  | nil {F G0 : Hp} : Flo C G' F G0 F G0 [] [] []
  | keep {F G0 F' G0' : Hp} {fl : List Bool} {vs : List V} {ds : List D} {v : V} {d : D} : Rep C.K G' v d → Flo C G' F G0 F' G0' fl vs ds → Flo C G' F G0 F' G0' (false :: fl) (v :: vs) (d :: ds)
  | own {F G0 F' G0' : Hp} {fl : List Bool} {vs : List V} {ds : List D} {p : Addr} {o : HO} {d : D} : F p = none → p ∉ C.tt → RepO C.K G' o d → Flo C G' (upd F p o) (noG G0 p) F' G0' fl vs ds → Flo C G' F G0 F' G0' (true :: fl) (.ref p :: vs) (d :: ds)
def tP (C : Cfg) (fl : List Bool) (xs : List Ex) : TA := fun σ H Q => ∃ (F G0 G : Hp) (pn : Option (Nat × Addr)) (e : Env') (ds : List D) (e' : Env'), Rel C F G0 G H pn σ e ∧ evo fl xs e = some (ds, e') ∧
  ∀ vs F' G0' G' H', Rel C F' G0' G' H' pn σ e' → Same G G' → Flo C G' F G0 F' G0' fl vs ds → Q vs H'
section
variable {X : Cx} {C : Cfg} {F G0 F' G0' G G' H H' : Hp} {pn : Option (Nat × Addr)} {σ : St} {e e' : Env'} {x y : Ex} {a b : Expr} {xs : List Ex} {es : List Expr} {fl : List Bool} {p pos : Pos}
theorem cp_nil : PA X [] (tP C [] []) := pa_nil.imp fun σ H Q q => by
  obtain ⟨F, G0, G, pn, e, ds, e', R, he, k⟩ := q
  unfold evo at he
  cases he
  exact k [] F G0 G H R (Same.refl G) .nil
theorem cp_keep (ha : PE X a (tE C x)) (hr : PA X es (tP C fl xs)) (hs : starEach (a :: es) X.env = (false, eval a X.env) :: starEach es X.env := by rfl) : PA X (a :: es) (tP C (false :: fl) (x :: xs)) := (pa_cons ha hr hs).imp fun σ H Q q => by
  obtain ⟨F, G0, G, pn, e, ds, e', R, he, k⟩ := q
  unfold evo at he
  split at he
  · rename_i r e1 q1
    split at he
    · rename_i d e2 q2
      split at he
      · rename_i ds3 e3 q3
        cases he
        refine ⟨F, G0, G, pn, e, r, e1, R, q1, fun v G1 H1 R1 s1 rv => ?_⟩
        obtain ⟨G2, s2, R2, r2, _⟩ := R1.settle rv q2
        exact ⟨F, G0, G2, pn, e2, ds3, _, R2, q3, fun vs F3 G03 G3 H3 R3 s3 fo => k (v :: vs) F3 G03 G3 H3 R3 ((s1.trans s2).trans s3) (.keep (r2.mono s3) fo)⟩
      · cases he
    · cases he
  · cases he
theorem cp_own (ha : PE X a (tF C x)) (hr : PA X es (tP C fl xs)) (hs : starEach (a :: es) X.env = (false, eval a X.env) :: starEach es X.env := by rfl) : PA X (a :: es) (tP C (true :: fl) (x :: xs)) := (pa_cons ha hr hs).imp fun σ H Q q => by
  obtain ⟨F, G0, G, pn, e, ds, e', R, he, k⟩ := q
  unfold evo at he
  split at he
  · rename_i d e1 q1
    split at he
    · rename_i ds2 e2 q2
      cases he
      refine ⟨F, G0, G, pn, e, d, e1, R, q1, fun pp o G1 H1 R1 s1 g1 f1 t1 o1 h1 r1 => ?_⟩
      have R2 := R1.fr1 (o := o) h1 g1 f1 o1 t1
      exact ⟨upd F pp o, noG G0 pp, G1, pn, e1, ds2, _, R2, q2, fun vs F3 G03 G3 H3 R3 s3 fo => k (.ref pp :: vs) F3 G03 G3 H3 R3 (s1.trans s3) (.own f1 t1 (r1.mono s3) fo)⟩
    · cases he
  · cases he
def setsV (σ : St) : List Nat → List V → St
  | i :: is, v :: vs => (setsV σ is vs).set i (some v)
  | _, _ => σ
/-- what a store of such values makes -/
theorem flo_stores : ∀ {fl : List Bool} {vs : List V} {ds : List D} {F G0 F' G0' : Hp} {is : List Nat} {e2 : Env'}, Flo C G' F G0 F' G0' fl vs ds → Rel C F' G0' G' H' pn σ e' → storesO is fl ds e' = some e2 → Rel C F G0 G' H' pn (setsV σ is vs) e2
  | _, _, _, _, _, _, _, is, e2, .nil, R, h => by
    cases is with
    | nil =>
      unfold storesO at h
      cases h
      exact R
    | cons i is => simp [storesO] at h
  | _, _, _, _, _, _, _, is, e2, .keep rv fo, R, h => by
    cases is with
    | nil => simp [storesO] at h
    | cons i is =>
      unfold storesO at h
      split at h
      · rename_i e1 q1
        have R1 := flo_stores fo R q1
        split at h
        · cases h
        · rename_i b0 hio h0
          simp only [Bool.false_eq_true, if_false, Option.some.injEq] at h
          subst h
          exact R1.put h0 (fun d z => hio d z) rv
        · cases h
      · cases h
  | _, _, _, _, _, _, _, is, e2, .own fD tD ro fo, R, h => by
    cases is with
    | nil => simp [storesO] at h
    | cons i is =>
      unfold storesO at h
      split at h
      · rename_i e1 q1
        have R1 := flo_stores fo R q1
        rename_i pp o d _
        obtain ⟨u1, u2, u3, u4⟩ := R1.un1 (o' := o) fD tD (fun xs z => by cases z; cases ro)
        have hsame : upd H' pp o = H' := by
          funext b
          by_cases z : b = pp
          · rw [z, upd_same, u1]
          · rw [upd_ne z]
        rw [hsame] at u4
        split at h
        · cases h
        · rename_i b0 hio h0
          simp only [if_true, Option.some.injEq] at h
          subst h
          exact u4.putO h0 (fun d z => hio d z) u2 fD tD u3 u1 ro
        · cases h
      · cases h
theorem flo_len : ∀ {fl : List Bool} {vs : List V} {ds : List D} {F G0 F' G0' : Hp}, Flo C G' F G0 F' G0' fl vs ds → vs.length = fl.length ∧ ds.length = fl.length
  | _, _, _, _, _, _, _, .nil => ⟨rfl, rfl⟩
  | _, _, _, _, _, _, _, .keep _ fo => ⟨congrArg Nat.succ (flo_len fo).1, congrArg Nat.succ (flo_len fo).2⟩
  | _, _, _, _, _, _, _, .own _ _ _ fo => ⟨congrArg Nat.succ (flo_len fo).1, congrArg Nat.succ (flo_len fo).2⟩
theorem parO_of {is : List Nat} {D : Ends} {σ : St} {H : Hp} (q : tS C (.parO is fl xs) D σ H) : ∃ (T : List V → Hp → Prop), tP C fl xs σ H T ∧ ∀ vs H1, T vs H1 → vs.length = fl.length ∧ D.nx (setsV σ is vs) H1 ∧ ∀ pp, H1 pp = none → D.nx (setsV σ is vs) (upd H1 pp (.tup vs)) := by
  obtain ⟨F, G0, G, pn, e, o, R, he, k⟩ := q
  unfold ex at he
  split at he
  · rename_i ds e1 q1
    split at he
    · rename_i e2 q2
      cases he
      refine ⟨fun vs H1 => vs.length = fl.length ∧ D.nx (setsV σ is vs) H1 ∧ ∀ pp, H1 pp = none → D.nx (setsV σ is vs) (upd H1 pp (.tup vs)), ⟨F, G0, G, pn, e, ds, e1, R, q1, fun vs F1 G01 G1 H1 R1 s1 fo => ⟨(flo_len fo).1, k _ G1 H1 (flo_stores fo R1 q2) s1, fun pp hp => ?_⟩⟩, fun vs H1 h => h⟩
      have R2 := R1.grow (grow_own (o := .tup vs) R1.gh R1.tabs hp)
      exact k _ G1 _ (flo_stores fo R2 q2) s1
    · cases he
  · cases he
theorem cs_parO2 {i j : Nat} {nx ny : Str} {px py pt : Pos} {kt k2 : Nat} {pt2 : Pos} (hc : X.calm = true) (hN : X.N.Nodup) (hi : X.N[i]? = some nx) (hj : X.N[j]? = some ny) (hij : i ≠ j)
    (hx : X.env.scope.names.lookup nx = some .local) (hy : X.env.scope.names.lookup ny = some .local) (hf : fl.length = 2) (ha : PA X [a, b] (tP C fl xs))
    (hw : swappedStores [.Tuple [.Name nx px, .Name ny py] kt pt] (.Tuple [a, b] k2 pt2) X.env = pure (some [nx, ny]))
    (hs : swapsWithSole [.Tuple [.Name nx px, .Name ny py] kt pt] (.Tuple [a, b] k2 pt2) pos.line X.env = pure false := by rfl) :
    PS X (.Assign [.Tuple [.Name nx px, .Name ny py] kt pt] (.Tuple [a, b] k2 pt2) pos) (tS C (.parO [i, j] fl xs)) := (ps_par hc hN hi hj hij hx hy ha hw hs).imp fun D σ H q => by
  obtain ⟨T, hT, k⟩ := parO_of q
  obtain ⟨F, G0, G, pn, e, ds, e', R, he, h⟩ := hT
  refine ⟨F, G0, G, pn, e, ds, e', R, he, fun vs F1 G01 G1 H1 R1 s1 fo => ?_⟩
  obtain ⟨h1, h2, _⟩ := k vs H1 (h vs F1 G01 G1 H1 R1 s1 fo)
  match vs, h1, h2 with
  | [v, w], _, h2 =>
    refine ⟨v, w, rfl, ?_⟩
    have e1 : (σ.set i (some v)).set j (some w) = setsV σ [i, j] [v, w] := List.set_comm _ _ hij
    rw [e1]
    exact h2
  | [], h1, _ => simp [hf] at h1
  | [_], h1, _ => simp [hf] at h1
  | _ :: _ :: _ :: _, h1, _ => simp [hf] at h1
theorem cs_parO3 {c : Expr} {i j l : Nat} {nx ny nz : Str} {px py pz pt : Pos} {kt k2 : Nat} {pt2 : Pos} (hc : X.calm = true) (hN : X.N.Nodup) (hi : X.N[i]? = some nx) (hj : X.N[j]? = some ny) (hl : X.N[l]? = some nz) (hij : i ≠ j) (hil : i ≠ l) (hjl : j ≠ l)
    (hx : X.env.scope.names.lookup nx = some .local) (hy : X.env.scope.names.lookup ny = some .local) (hz : X.env.scope.names.lookup nz = some .local) (hf : fl.length = 3) (ha : PA X [a, b, c] (tP C fl xs))
    (hw : swappedStores [.Tuple [.Name nx px, .Name ny py, .Name nz pz] kt pt] (.Tuple [a, b, c] k2 pt2) X.env = pure (some [nx, ny, nz]))
    (hs : swapsWithSole [.Tuple [.Name nx px, .Name ny py, .Name nz pz] kt pt] (.Tuple [a, b, c] k2 pt2) pos.line X.env = pure false := by rfl) :
    PS X (.Assign [.Tuple [.Name nx px, .Name ny py, .Name nz pz] kt pt] (.Tuple [a, b, c] k2 pt2) pos) (tS C (.parO [i, j, l] fl xs)) := (ps_par3 hc hN hi hj hl hij hil hjl hx hy hz ha hw hs).imp fun D σ H q => by
  obtain ⟨T, hT, k⟩ := parO_of q
  obtain ⟨F, G0, G, pn, e, ds, e', R, he, h⟩ := hT
  refine ⟨F, G0, G, pn, e, ds, e', R, he, fun vs F1 G01 G1 H1 R1 s1 fo => ?_⟩
  obtain ⟨h1, h2, _⟩ := k vs H1 (h vs F1 G01 G1 H1 R1 s1 fo)
  match vs, h1, h2 with
  | [u, v, w], _, h2 =>
    refine ⟨u, v, w, rfl, ?_⟩
    have e1 : ((σ.set i (some u)).set j (some v)).set l (some w) = setsV σ [i, j, l] [u, v, w] := by
      show _ = ((σ.set l (some w)).set j (some v)).set i (some u)
      rw [List.set_comm (some w) (some v) (fun z => hjl z.symm), List.set_comm (some w) (some u) (fun z => hil z.symm), List.set_comm (some v) (some u) (fun z => hij z.symm)]
    rw [e1]
    exact h2
  | [], h1, _ => simp [hf] at h1
  | [_], h1, _ => simp [hf] at h1
  | [_, _], h1, _ => simp [hf] at h1
  | _ :: _ :: _ :: _ :: _, h1, _ => simp [hf] at h1
/-! ### by a tuple -/
def gNs : List Nat → TGs
  | [] => gNil
  | i :: is => gCons (gName i) (gNs is)
theorem setsV_comm {i : Nat} {u : V} : ∀ {is : List Nat} {vs : List V} {σ : St}, i ∉ is → setsV (σ.set i (some u)) is vs = (setsV σ is vs).set i (some u)
  | [], _, _, _ => rfl
  | _ :: _, [], _, _ => rfl
  | j :: is, v :: vs, σ, h => by
    have hj : j ≠ i := fun z => h (by rw [z]; exact List.mem_cons_self)
    show (setsV (σ.set i (some u)) is vs).set j (some v) = ((setsV σ is vs).set j (some v)).set i (some u)
    rw [setsV_comm (fun z => h (List.mem_cons_of_mem _ z)), List.set_comm (some u) (some v) (fun z => hj z.symm)]
theorem gNs_of : ∀ {is : List Nat} {vs : List V} {σ : St} {H : Hp} {Q : St → Hp → Prop}, is.Nodup → vs.length = is.length → Q (setsV σ is vs) H → gNs is vs σ H Q
  | [], [], _, _, _, _, _, h => ⟨rfl, h⟩
  | [], _ :: _, _, _, _, _, h, _ => by simp at h
  | _ :: _, [], _, _, _, _, h, _ => by simp at h
  | i :: is, v :: vs, σ, H, Q, hn, hl, h => by
    obtain ⟨h1, h2⟩ := List.nodup_cons.mp hn
    refine ⟨v, vs, rfl, gNs_of h2 (by simpa using hl) ?_⟩
    rw [setsV_comm h1]
    exact h
theorem cs_parOT {tes ves : List Expr} {is : List Nat} {n kt k2 : Nat} {pt pt2 : Pos} (hc : X.calm = true) (hK : C.K = X.K) (hg : PGs X tes (gNs is)) (hn : is.Nodup) (hl : is.length = n) (hf : fl.length = n) (hz : n ≤ 1000) (ha : PA X ves (tP C fl xs))
    (hl2 : (assignEach tes X.env).length = n := by rfl) (hst : (assignEach tes X.env).findIdx? (·.1) = none := by rfl)
    (hs : swapsWithSole [.Tuple tes kt pt] (.Tuple ves k2 pt2) pos.line X.env = pure false := by rfl) (hw : swappedStores [.Tuple tes kt pt] (.Tuple ves k2 pt2) X.env = pure none := by rfl)
    (h1 : (assignEach [.Tuple tes kt pt] X.env).map (·.2) = [assign (.Tuple tes kt pt) X.env] := by rfl) :
    PS X (.Assign [.Tuple tes kt pt] (.Tuple ves k2 pt2) pos) (tS C (.parO is fl xs)) := (ps_asg (pe_tup ha) (pg_tup (n := n) hc hg hl2 hst) hs hw h1).imp fun D σ H q => by
  obtain ⟨T, hT, k⟩ := parO_of q
  obtain ⟨F, G0, G, pn, e, ds, e', R, he, h⟩ := hT
  refine ⟨F, G0, G, pn, e, ds, e', R, he, fun vs F1 G01 G1 H1 R1 s1 fo => ?_⟩
  obtain ⟨k1, _, k3⟩ := k vs H1 (h vs F1 G01 G1 H1 R1 s1 fo)
  refine ⟨by rw [k1, hf]; exact Nat.le_trans hz (by rw [sizeLine_eq]; omega), fun pp hp => ⟨pp, vs, rfl, SqT.of upd_same, by rw [k1, hf], gNs_of hn (by rw [k1, hf, hl]) (k3 pp hp)⟩⟩
end
end Mi

/-! own things given back; own things moved into a call. -/
namespace Mi
open PySem PySem.Spec PyProof.Rows L2 GxR
structure GrowM (C : Cfg) (p : Addr) (G H G' H' : Hp) : Prop where
  gg : Same G G'
  gh : Same G' H'
  hh : ∀ q, q ≠ p → H q ≠ none → q ∉ C.tt → H' q = H q
  go : ∀ q, q ≠ p → H q ≠ none → NT (H q) → G' q = G q
  tb : ∀ P ∈ C.tt, TabG H' P
/-- the last argument is an own thing that is moved in; an own thing comes back: that one or a new one -/
def spM (C : Cfg) (n : Nat) (φ : List D → Option D) : Sp := fun vs H Q _ => ∃ (G : Hp) (ws : List V) (p : Addr) (o : HO) (ds : List D) (d0 d : D), vs = ws ++ [.ref p] ∧ vs.length = n ∧ Same G H ∧ (∀ P ∈ C.tt, TabG H P ∧ G P = none) ∧ G p = none ∧ p ∉ C.tt ∧ H p = some o ∧ RepO C.K G o d0 ∧ RepL C.K G ws ds ∧ φ (ds ++ [d0]) = some d ∧
  ∀ p' o' G' H', GrowM C p G H G' H' → G' p' = none → p' ∉ C.tt → (p' = p ∨ H p' = none) → H' p' = some o' → RepO C.K G' o' d → Q (.ref p') H'
def initM (N : Nat) (ds : List D) (d0 : D) : Env' := ds.map B.im ++ (.ow d0 :: List.replicate (N - (ds.length + 1)) .un)
def runM (n N : Nat) (s : S) : List D → Option D := fun ds => match ds.getLast? with
  | some d0 => if ds.length = n then (match ex s (initM N ds.dropLast d0) with
    | some (.ro d _) => some d
    | _ => none) else none
  | none => none
section
variable {X : Cx} {C : Cfg} {F G0 G G' H H' : Hp} {pn : Option (Nat × Addr)} {σ : St} {e e' : Env'} {x y : Ex} {a b : Expr} {pos : Pos}
theorem cs_retO (ha : PE X a (tF C x)) : PS X (.Return (some a) pos) (tS C (.retO x)) := (ps_ret ha).imp fun D σ H q => by
  obtain ⟨F, G0, G, pn, e, o, R, he, k⟩ := q
  unfold ex at he
  split at he
  · rename_i d e1 q1
    cases he
    exact ⟨F, G0, G, pn, e, d, e1, R, q1, fun p o G1 H1 R1 s1 g1 f1 t1 o1 h1 r1 => k p o σ G1 H1 R1 s1 g1 f1 t1 h1 r1⟩
  · cases he
theorem cs_retV {i : Nat} (ha : PE X a (tVar i)) : PS X (.Return (some a) pos) (tS C (.retV i)) := (ps_ret ha).imp fun D σ H q => by
  obtain ⟨F, G0, G, pn, e, o, R, he, k⟩ := q
  unfold ex at he
  split at he
  · rename_i d hb
    cases he
    obtain ⟨p, o, h0, h1, h2, h3, h4, h5⟩ := R.sl i _ hb
    exact ⟨.ref p, h0, k p o σ G H R (Same.refl G) h1 h2 h3 h4 h5⟩
  · cases he
theorem Rel.moved {i : Nat} {p p' : Addr} {d0 d : D} {o' : HO} (R : Rel C F G0 G H pn σ e) (hs : σ[i]? = some (some (.ref p))) (hb : e[i]? = some (.ow d0)) (g : GrowM C p G H G' H') (gp : G' p' = none) (tp : p' ∉ C.tt) (hor : p' = p ∨ H p' = none) (hp : H' p' = some o') (ro : RepO C.K G' o' d) :
    Rel C F G0 G' H' pn (σ.set i (some (.ref p'))) (e.set i (.ow d)) := by
  have hi : i < e.length := (List.getElem?_eq_some_iff.mp hb).1
  have his : i < σ.length := by rw [R.ln]; exact hi
  obtain ⟨p1, o1, z, g1, f1, t1, h1, _⟩ := R.sl i _ hb
  rw [hs] at z
  cases z
  have fs : ∀ q, F q ≠ none → q ≠ p ∧ H q ≠ none := fun q h => by
    refine ⟨fun z => h (by rw [z]; exact f1), ?_⟩
    cases z : F q with
    | none => exact absurd z h
    | some o => rw [R.fh q o z]; exact fun z => nomatch z
  have fp : F p' = none := by
    rcases hor with rfl | hn
    · exact f1
    · exact R.fh.free hn
  have back : ∀ {j : Nat} {q : Addr}, Own (σ.set i (some (.ref p'))) (e.set i (.ow d)) j q → (j = i ∧ q = p') ∨ (j ≠ i ∧ Own σ e j q) := fun {j q} ⟨a1, b, a2, a3⟩ => by
    by_cases hj : i = j
    · subst hj
      rw [List.getElem?_set_self his] at a1
      cases a1
      exact .inl ⟨rfl, rfl⟩
    · rw [List.getElem?_set_ne hj] at a1 a2
      exact .inr ⟨fun z => hj z.symm, a1, b, a2, a3⟩
  have ownH : ∀ {j : Nat} {q : Addr}, Own σ e j q → H q ≠ none := fun {j q} ⟨a1, b, a2, a3⟩ => by
    have sl := R.sl j b a2
    rw [a1] at sl
    cases b with
    | un => cases a3
    | im d => cases a3
    | ow d => obtain ⟨pp, o, z, _, _, _, h4, _⟩ := sl; cases z; rw [h4]; exact fun z => nomatch z
    | io d => obtain ⟨pp, o, z, _, _, _, h4, _⟩ := sl; cases z; rw [h4]; exact fun z => nomatch z
  have ow0 : Own σ e i p := ⟨hs, _, hb, rfl⟩
  have fe : ∀ q, F q ≠ none → H q = F q := fun q h => by
    cases z : F q with
    | none => exact absurd z h
    | some o => exact R.fh q o z
  refine ⟨fun q o h => ?_, g.gh, fun q h hn => by rw [g.go q (fs q h).1 (fs q h).2 (by rw [fe q h]; exact hn)]; exact R.gf q h hn, fun P hP => ⟨g.tb P hP, ?_, (R.tb P hP).2.2⟩, fun j x hx => ?_, fun j m q o1 o2 => ?_, fun j q hq => ?_, by rw [List.length_set, List.length_set]; exact R.ln⟩
  · have hF : F q ≠ none := by rw [h]; exact fun z => nomatch z
    have hne : q ∉ C.tt := fun z => by rw [(R.tb q z).2.2] at h; cases h
    rw [g.hh q (fs q hF).1 (fs q hF).2 hne]
    exact R.fh q o h
  · rw [g.go P (fun z => t1 (by rw [← z]; exact hP)) (tabG_some (R.tb P hP).1) (tabG_nt (R.tb P hP).1)]
    exact (R.tb P hP).2.1
  · by_cases hj : i = j
    · subst hj
      rw [List.getElem?_set_self hi] at hx
      cases hx
      exact ⟨p', o', List.getElem?_set_self his, gp, fp, tp, hp, ro⟩
    · rw [List.getElem?_set_ne hj] at hx
      rw [List.getElem?_set_ne hj]
      have q := R.sl j x hx
      have ow : ∀ {p2 : Addr} {o : HO} {d : D}, σ[j]? = some (some (.ref p2)) → x.isOw = true → G p2 = none → p2 ∉ C.tt → H p2 = some o → RepO C.K G o d → G' p2 = none ∧ H' p2 = some o ∧ RepO C.K G' o d := fun {p2 o d} k0 kx h1 h3 h4 h5 => by
        have hs2 : H p2 ≠ none := by rw [h4]; exact fun z => nomatch z
        have hpp : p2 ≠ p := fun z => by
          subst z
          exact hj (R.ap i j p2 ow0 ⟨k0, x, hx, kx⟩)
        exact ⟨by rw [g.go p2 hpp hs2 (repO_nt h4 h5)]; exact h1, by rw [g.hh p2 hpp hs2 h3]; exact h4, h5.mono g.gg⟩
      cases x with
      | un => trivial
      | im d2 =>
        obtain ⟨v, h1, h2⟩ := q
        exact ⟨v, h1, h2.mono g.gg⟩
      | ow d2 =>
        obtain ⟨p2, o, h0, h1, h2, h3, h4, h5⟩ := q
        obtain ⟨k1, k2, k3⟩ := ow h0 rfl h1 h3 h4 h5
        exact ⟨p2, o, h0, k1, h2, h3, k2, k3⟩
      | io d2 =>
        obtain ⟨p2, o, h0, h1, h2, h3, h4, h5⟩ := q
        obtain ⟨k1, k2, k3⟩ := ow h0 rfl h1 h3 h4 h5
        exact ⟨p2, o, h0, k1, h2, h3, k2, k3⟩
  · have cross : ∀ {m : Nat}, m ≠ i → Own σ e m p' → False := fun {m} hm o => by
      rcases hor with rfl | hn
      · exact hm (R.ap m i p' o ow0)
      · exact ownH o hn
    rcases back o1 with ⟨rfl, rfl⟩ | ⟨hj, o1'⟩
    · rcases back o2 with ⟨rfl, _⟩ | ⟨hm, o2'⟩
      · rfl
      · exact (cross hm o2').elim
    · rcases back o2 with ⟨rfl, rfl⟩ | ⟨hm, o2'⟩
      · exact (cross hj o1').elim
      · exact R.ap j m q o1' o2'
  · obtain ⟨k1, d2, k2⟩ := R.pi j q hq
    have hj : i ≠ j := fun z => by
      subst z
      rw [hb] at k2
      cases k2
    exact ⟨by rw [List.getElem?_set_ne hj]; exact k1, d2, by rw [List.getElem?_set_ne hj]; exact k2⟩
/-- x = f(a, x) -/
theorem cs_mov1 {φ : List D → Option D} {k : Nat} {f : Addr} {fd : FuncData} {ps : List Str} {nm nx : Str} {i : Nat} {p p1 px cpos : Pos} (F : FnOk X.prog X.w X.K X.mg X.base CX0 k f fd ps (spM C 2 φ)) (hr : Room k X.A) (hg : Gl X nm) (hm : X.mg nm = some (.ref f)) (hk : PySem.W.keepIn X.K (.ref f) = true) (hb : Binds X.K fd ps [])
    (h : ∀ {te : TE}, PE X (.Call (.Name nm p) [a, .Name nx p1] [] cpos) te → PS X (.Assign [.Name nx px] (.Call (.Name nm p) [a, .Name nx p1] [] cpos) pos) (tAsg te (gName i))) (ha : PE X a (tE C x)) (hv : PE X (.Name nx p1) (tVar i))
    (hdb : (nm == ("__debug__" : Str)) = false := by decide) (he : starEach [a, .Name nx p1] X.env = (false, eval a X.env) :: starEach [.Name nx p1] X.env := by rfl) (he2 : starEach [.Name nx p1] X.env = (false, eval (.Name nx p1) X.env) :: starEach [] X.env := by rfl) (hpl : (backTo cpos (starEach [.Name nx p1] X.env)).any (·.1) = false := by rfl) :
    PS X (.Assign [.Name nx px] (.Call (.Name nm p) [a, .Name nx p1] [] cpos) pos) (tS C (.mov i φ [x])) := (h (pe_call F hr hg hm hk hb .nil pass0 (pa_cons ha (pa_cons hv pa_nil he2) he) hdb he hpl)).imp fun D σ H q => by
  obtain ⟨F, G0, G, pn, e, o, R, he, k⟩ := q
  unfold ex at he
  split at he
  · rename_i rs e1 q1
    split at he
    · rename_i ds e2 q2
      split at he
      · rename_i d0 hb0
        split at he
        · rename_i d hφ
          cases he
          obtain ⟨r1, e1', rs2, h1, h2, rfl⟩ := evs_cons q1
          obtain ⟨rfl, rfl⟩ := evs_nil h2
          refine ⟨F, G0, G, pn, e, r1, _, R, h1, fun v G1 H1 R1 s1 rv => ?_⟩
          obtain ⟨G2, s2, R2, r2, _⟩ := Rel.settles R1 (.cons rv .nil) q2
          obtain ⟨p0, o0, hs0, g0, f0, t0, hh0, ro0⟩ := R2.sl i _ hb0
          refine ⟨.ref p0, hs0, G2, [v], p0, o0, ds, d0, d, rfl, rfl, R2.gh, fun P hP => ⟨(R2.tb P hP).1, (R2.tb P hP).2.1⟩, g0, t0, hh0, ro0, r2, hφ, fun p' o' G3 H3 g gp tp hor hp ro => ?_⟩
          exact k _ G3 H3 (R2.moved hs0 hb0 g gp tp hor hp ro) ((s1.trans s2).trans g.gg)
        · cases he
      · cases he
    · cases he
  · cases he
end
section
variable {P : Program} {w : World} {K : Frag} {mg : Str → Option Value} {base : Heap} {C : Cfg} {nm qual : Str} {params : Arguments} {body : List Stmt} {scope : Scope} {f : Addr} {fd : FuncData} {N ps : List Str} {k : Nat} {s : S}
theorem fnM_of (F : FunD K nm qual params body scope [] [] f fd) (S : FnScope N ps scope) (hK : C.K = K) (hb : ∀ (cdv : Value) (A : Around) (outer : List Env) (s0 : Shared) (H : Hp) (E : XK), (∀ oc od osl fd', K.lookup f = some ⟨oc, od, .func fd', osl⟩ → fd'.code = cdv) → Room k (A.deeper (envOfC qual scope s0.heap.objs.size f cdv)) →
      PSs (cxOf CX0 P w K mg base N qual scope f cdv A outer s0 H E).nox body (tS C s)) : FnOk P w K mg base CX0 (k + 1) f fd ps (spM C ps.length (runM ps.length N.length s)) := by
  obtain ⟨oc, od, dV, kV, doc, pm, an, cdv, ct, osl, rfl, lk, hcd, _, _⟩ := F.ex
  refine fn_of lk hcd S (fun vs H Q E h => ?_) fun A outer s0 H vs Q E hr hsp => ?_
  · obtain ⟨_, _, _, _, _, _, _, _, h, _⟩ := h
    exact h
  · refine ⟨_, (hb cdv A outer s0 H E (fun oc2 od2 osl2 fd2 h => by rw [lk] at h; cases h; rfl) hr).nox, ?_⟩
    obtain ⟨G, ws, p0, o0, ds, d0, d, rfl, hl, gh, tb, g0, t0, h0, r0, rl, hφ, hQ⟩ := hsp
    unfold runM at hφ
    rw [List.getLast?_concat, List.dropLast_concat] at hφ
    dsimp only at hφ
    split at hφ
    · rename_i hn
      have lw : ws.length = ds.length := rl.length
      have R : Rel C (fun p => if p ∈ C.tt ∨ p = p0 then none else H p) G G H none (L2.start N (ws ++ [.ref p0])) (initM N.length ds d0) := by
        have st : ∀ i, i < ws.length → (L2.start N (ws ++ [V.ref p0]))[i]? = (ws[i]?).map some := fun i hi => by
          unfold L2.start
          rw [List.getElem?_append_left (by rw [List.length_map, List.length_append]; omega), List.getElem?_map, List.getElem?_append_left hi]
        have st0 : (L2.start N (ws ++ [V.ref p0]))[ws.length]? = some (some (.ref p0)) := by
          unfold L2.start
          rw [List.getElem?_append_left (by rw [List.length_map, List.length_append]; simp), List.getElem?_map, List.getElem?_append_right (Nat.le_refl _), Nat.sub_self]
          rfl
        have hle : ∀ i, i < ds.length → (initM N.length ds d0)[i]? = (ds[i]?).map B.im := fun i hi => by
          unfold initM
          rw [List.getElem?_append_left (by rw [List.length_map]; exact hi), List.getElem?_map]
        have heq : (initM N.length ds d0)[ds.length]? = some (.ow d0) := by
          unfold initM
          rw [List.getElem?_append_right (by rw [List.length_map]; exact Nat.le_refl _), List.length_map, Nat.sub_self]
          rfl
        have hge : ∀ i b, ds.length < i → (initM N.length ds d0)[i]? = some b → b = .un := fun i b hi h => by
          unfold initM at h
          rw [List.getElem?_append_right (by rw [List.length_map]; omega), List.length_map] at h
          obtain ⟨m, hm⟩ : ∃ m, i - ds.length = m + 1 := ⟨i - ds.length - 1, by omega⟩
          rw [hm, List.getElem?_cons_succ] at h
          exact (List.mem_replicate.mp (List.mem_of_getElem? h)).2
        have ow : ∀ (i : Nat) (b : B), (initM N.length ds d0)[i]? = some b → b.isOw = true → i = ds.length := fun i b h1 h2 => by
          rcases Nat.lt_trichotomy i ds.length with z | z | z
          · rw [hle i z] at h1
            cases q : ds[i]? with
            | none => rw [q] at h1; cases h1
            | some d => rw [q] at h1; cases h1; cases h2
          · exact z
          · rw [hge i b z h1] at h2; cases h2
        refine ⟨fun b o h => ?_, gh, fun _ _ _ => rfl, fun P hP => ⟨(tb P hP).1, (tb P hP).2, if_pos (.inl hP)⟩, fun i b h => ?_, fun i j p ⟨_, b, h1, h2⟩ ⟨_, b', h3, h4⟩ => by rw [ow i b h1 h2, ow j b' h3 h4], fun i p h => (nomatch h), ?_⟩
        · have h' : (if b ∈ C.tt ∨ b = p0 then none else H b) = some o := h
          split at h'
          · cases h'
          · exact h'
        · rcases Nat.lt_trichotomy i ds.length with z | z | z
          · rw [hle i z] at h
            cases q : ds[i]? with
            | none => rw [q] at h; cases h
            | some d =>
              rw [q] at h
              cases h
              obtain ⟨v, h1, h2⟩ := rl.getD q
              exact ⟨v, by rw [st i (by omega), h1]; rfl, h2⟩
          · subst z
            rw [heq] at h
            cases h
            exact ⟨p0, o0, by rw [← lw]; exact st0, g0, if_pos (.inr rfl), t0, h0, r0⟩
          · rw [hge i b z h]
            trivial
        · unfold L2.start initM
          simp only [List.length_append, List.length_cons, List.length_map, List.length_replicate, List.length_nil]
          rw [lw]
          omega
      split at hφ
      · rename_i d2 e1 hx
        cases hφ
        refine ⟨_, G, G, none, _, _, R, hx, fun p o σ' G' H' R' s' gp fp tp hp ro => hQ p o G' H' ⟨s', R'.gh, fun q hq hq2 ht => ?_, fun q hq hq2 hn => ?_, R'.tabs⟩ gp tp ?_ hp ro⟩
        · cases z : H q with
          | none => exact absurd z hq2
          | some o => exact R'.fh q o ((if_neg (fun z => z.elim ht hq)).trans z)
        · by_cases ht : q ∈ C.tt
          · rw [(R'.tb q ht).2.1, (tb q ht).2]
          · exact R'.gf q (fun z => hq2 ((if_neg (fun z => z.elim ht hq)).symm.trans z)) (fun xs z => hn xs ((if_neg (fun z => z.elim ht hq)).symm.trans z))
        · by_cases z : p = p0
          · exact .inl z
          · exact .inr ((if_neg (fun w => w.elim tp z)).symm.trans fp)
      · cases hφ
    · cases hφ
end
end Mi

/-! all(test for a, b in zip(x, y)) where x, y hold numbers and the test only compares a and b. -/
namespace Mi
open PySem PySem.Spec PyProof.Rows L2 GxR
section
variable {X : Cx} {pins : List (Addr × Obj)} {σ : L2.St} {H : Hp} {s : Shared}
theorem draws_all (I : Inv X pins σ H s) {z : Src} (hz : z.ok H) {it : Addr} {i : Nat} (hi : H it = none) (st : z.at s.heap it i) :
    ∃ (fp : List Addr) (P : Nat → Value → Prop) (Z : Nat → Heap → Prop), (∀ A : Around, A.handled = none → PySem.Draws X.prog X.w A.in1 it fp z.vals.length P Z) ∧ Z i s.heap ∧ (∀ j v, P j v → ∃ x, z.vals[j]? = some x ∧ RelV x v) ∧
      it ∈ fp ∧ ∀ b ∈ fp, b = it ∨ (∃ xs, H b = some (.lst xs)) ∨ ∃ xs, H b = some (.tup xs) := by
  cases z with
  | lst a xs =>
    have hz : H a = some (.lst xs) := hz
    obtain ⟨its, rv, p, _⟩ := I.list (SqL.of hz)
    have hne : a ≠ it := fun e => by rw [e, hi] at hz; cases hz
    have hl := rv.length
    have D := fun (A : Around) (hh : A.handled = none) => PySem.Draws.list (prog := X.prog) (w := X.w) (A := A.in1) hh it a hne its.toArray
    rw [← show its.toArray.size = (Src.lst a xs).vals.length by simp [Src.vals, hl]]
    refine ⟨_, _, _, D, ?_, fun j v q => ?_, by simp, fun b hb => ?_⟩
    · exact ⟨st, p.isList⟩
    · have q' : its[j]? = some v := by simpa using q
      exact valsBack rv q'
    · rcases List.mem_cons.mp hb with rfl | hb
      · exact .inl rfl
      · rw [List.mem_singleton.mp hb]
        exact .inr (.inl ⟨_, hz⟩)
  | tup a xs =>
    have hz : H a = some (.tup xs) := hz
    obtain ⟨its, rv, p, _⟩ := I.tuple (SqT.of hz)
    have hne : a ≠ it := fun e => by rw [e, hi] at hz; cases hz
    have hl := rv.length
    have D := fun (A : Around) (hh : A.handled = none) => PySem.Draws.tuple (prog := X.prog) (w := X.w) (A := A.in1) hh it a hne its.toArray
    rw [← show its.toArray.size = (Src.tup a xs).vals.length by simp [Src.vals, hl]]
    refine ⟨_, _, _, D, ?_, fun j v q => ?_, by simp, fun b hb => ?_⟩
    · exact ⟨st, p⟩
    · have q' : its[j]? = some v := by simpa using q
      exact valsBack rv q'
    · rcases List.mem_cons.mp hb with rfl | hb
      · exact .inl rfl
      · rw [List.mem_singleton.mp hb]
        exact .inr (.inr ⟨_, hz⟩)
  | txt x =>
    obtain ⟨t, st⟩ := st
    have D := fun (A : Around) (hh : A.handled = none) => PySem.Draws.text (prog := X.prog) (w := X.w) (A := A.in1) hh it x t
    rw [← show x.cps.size = (Src.txt x).vals.length by simp [Src.vals]]
    refine ⟨_, _, _, D, ?_, fun j v q => ?_, by simp, fun b hb => ?_⟩
    · exact st
    · obtain ⟨c, u, h1, rfl⟩ := q
      refine ⟨.str ⟨#[c]⟩, ?_, ⟨u, rfl⟩⟩
      show (x.cps.toList.map fun c => V.str ⟨#[c]⟩)[j]? = _
      rw [List.getElem?_map, Array.getElem?_toList, h1]
      rfl
    · exact .inl (by simpa using hb)
/-- the generator expression's own scope: two names -/
structure GenZ (env : Env) (scope : Scope) (x y : Str) : Prop where
  kind : scope.kind = .function
  co : scope.isCoroutine = false
  cell : ∀ y ∈ scope.names, y.2 ≠ .cell
  dot : scope.names.lookup (".0" : Str) = some NameKind.local
  locx : scope.names.lookup x = some .local
  locy : scope.names.lookup y = some .local
  ne : x ≠ y
  free : ∀ y ∈ scope.names, y.2 = .free → ∃ c, env.cells.lookup y.1 = some c
/-- the element: a test of two numbers -/
def EltZ (prog : Program) (w : World) (scope : Scope) (x y : Str) (elt : Expr) (pb : Int → Int → Bool) : Prop :=
  ∀ (cenv : Env) (A' : Around) (E' : Value → Shared → Prop) (a b : Int) (t u : Tok) (s₂ : Shared) (m₂ : Str → Option Value), cenv.scope = scope → s₂.heap.Ns cenv.locals m₂ → m₂ x = some (.int a t) → m₂ y = some (.int b u) →
    wpAny (model prog w) A' (eval elt cenv) (fun v s₃ => v = .bool (pb a b) ∧ Keeps s₂ s₃) E' s₂
theorem eltz_le {prog : Program} {w : World} {scope : Scope} {x y : Str} {p1 p2 p3 : Pos} (hk : scope.kind = .function) (hx : scope.names.lookup x = some .local) (hy : scope.names.lookup y = some .local)
    (hd : (x == ("__debug__" : Str)) = false := by decide) (hd2 : (y == ("__debug__" : Str)) = false := by decide) :
    EltZ prog w scope x y (.Compare (.Name x p1) [.LtE] [.Name y p2] p3) (fun a b => decide (a ≤ b)) := by
  intro cenv A' E' a b t u s₂ m₂ hs hn hm hm2
  refine wpAny_Compare1 ?_
  refine wpAny_Name (wpAny_loadName_local (by rw [hs]; exact hk) (show cenv.scope.names.lookup x = some .local by rw [hs]; exact hx) hn hm ?_) hd
  refine wpAny_Name (wpAny_loadName_local (by rw [hs]; exact hk) (show cenv.scope.names.lookup y = some .local by rw [hs]; exact hy) hn hm2 ?_) hd2
  exact PyProof.Rows.le_int ⟨rfl, keeps_refl _⟩
def zipB (pb : Int → Int → Bool) (l m : List Int) (j : Nat) : Bool := match l[j]?, m[j]? with
  | some a, some b => pb a b
  | _, _ => false
theorem all_zip (pb : Int → Int → Bool) : ∀ (l m : List Int), (List.range (min l.length m.length)).all (zipB pb l m) = (l.zip m).all fun q => pb q.1 q.2
  | [], m => by simp
  | _ :: _, [] => by simp
  | x :: l, y :: m => by
    rw [List.length_cons, List.length_cons, Nat.succ_min_succ, List.range_succ_eq_map, List.all_cons, List.all_map, List.zip_cons_cons, List.all_cons, ← all_zip pb l m]
    rfl
def ReadyZ (X : Cx) (pins : List (Addr × Obj)) (σ : L2.St) (H1 : Hp) (P : Addr) (l m : List Int) (pb : Int → Int → Bool) (g : Addr) (s5 : Shared) : Prop :=
  ∃ (fp wr : List Addr) (G : Array GenState → Array GenState → Prop) (F : Nat → Value → Prop) (St : Nat → Shared → Prop),
    WalksS X.prog X.w X.A.in1 g fp wr G (min l.length m.length) F St ∧ St 0 s5 ∧
    TruthOf X.prog X.w X.A.in1 F (zipB pb l m) ∧
    ∀ s', Moved wr G s5 s' → ∃ H2, Tabbed P H1 H2 ∧ Inv X pins σ H2 s'
theorem gen_zip {c P : Addr} {elt e f : Expr} {x y : Str} {px py pt zp pos gpos : Pos} {kt : Nat} {scope : Scope} {pb : Int → Int → Bool} {ta : TA} {k : Nat} {Q' : Value → Shared → Prop} {R : List Int → List Int → Hp → Prop}
    (hr : Room k X.A) (hg : Gl X "zip") (hm : X.mg "zip" = none) (TB : TabB X.base X.mg c P) (hcode : X.env.code = .ref c) (S : GenZ X.env scope x y) (ha : PA X [e, f] ta) (hel : EltZ X.prog X.w scope x y elt pb)
    (hst : starEach [e, f] X.env = (false, eval e X.env) :: starEach [f] X.env) (hpl : (backTo pos (starEach [f] X.env)).any (·.1) = false)
    (hs : ∀ v, genFold (.Call (.Name "zip" zp) [e, f] [] pos) X.env v = pure v) (I : Inv X pins σ H s)
    (h : ta σ H fun vs H1 => ∃ (z1 z2 : Src) (l m : List Int), vs = [z1.v, z2.v] ∧ z1.ok H1 ∧ z2.ok H1 ∧ z1.vals = l.map V.int ∧ z2.vals = m.map V.int ∧ TabG H1 P ∧ R l m H1)
    (hQ : ∀ l m H1 g s5, R l m H1 → ReadyZ X pins σ H1 P l m pb g s5 → Q' (.ref g) s5) :
    wpAny (model X.prog X.w) X.A (eval (.GeneratorExp elt [⟨.Tuple [.Name x px, .Name y py] kt pt, .Call (.Name "zip" zp) [e, f] [] pos, [], 0⟩] scope gpos) X.env) Q' X.xe s := by
  refine wpAny_GeneratorExp_walksQT hr.hd S.co (closure_ok S.free) S.cell S.dot S.locx S.locy S.ne S.kind (by have := hr.dp; omega) ?_ hs
  refine Call_ (ld_blt I hg hm PyProof.Rows.boot_zip (PyProof.Rows.callWith_type1 (thn (ha.run pos pins s σ H _ I h) fun us s1 ⟨vs, H1, I1, r1, q1⟩ => ?_) hst hpl))
  obtain ⟨z1, z2, l, m, rfl, hz1, hz2, hl, hm2, ⟨ps, hP, ht⟩, q1⟩ := q1
  obtain ⟨u1, u2, rfl, ru1, ru2⟩ := vals2 r1
  obtain ⟨o1, Hh1, B1, hH1, hat1⟩ := begins_of I1 hz1 ru1
  obtain ⟨o2, Hh2, B2, hH2, hat2⟩ := begins_of I1 hz2 ru2
  refine zip_begins2 B1 B2 hH1 hH2 fun h2 a1 a2 a3 g1 g2 hsz hk => wpAny_pyIter_zip a1 ?_
  have I2 : Inv X pins σ H1 { s1 with heap := h2 } := I1.kept (t' := s1.toks) hk
  have frs : ∀ j : Nat, H1 (s1.heap.objs.size + j : Nat) = none := fun j => I1.hok.fresh (Nat.le_add_right _ _)
  obtain ⟨fp1, P1, Z1, D1, k1, k2, k3, k4⟩ := draws_all I2 hz1 (it := s1.heap.objs.size) (i := 0) (frs 0) (hat1 _ _ g1)
  obtain ⟨fp2, P2, Z2, D2, j1, j2, j3, j4⟩ := draws_all I2 hz2 (it := s1.heap.objs.size + 1) (i := 0) (frs 1) (hat2 _ _ g2)
  have som : ∀ (b : Addr) (fp : List Addr) (it : Addr), (∀ b ∈ fp, b = it ∨ (∃ xs, H1 b = some (HO.lst xs)) ∨ ∃ xs, H1 b = some (HO.tup xs)) → b ∈ fp → b = it ∨ H1 b ≠ none := fun b fp it h hb => by
    rcases h b hb with z | ⟨xs, z⟩ | ⟨xs, z⟩
    · exact .inl z
    · exact .inr (by rw [z]; simp)
    · exact .inr (by rw [z]; simp)
  have n1 : ∀ j : Nat, j ≠ 0 → (s1.heap.objs.size + j : Nat) ∉ fp1 := fun j hj q => by
    rcases som _ _ _ k4 q with z | z
    · have z' : (s1.heap.objs.size + j : Nat) = s1.heap.objs.size := z
      omega
    · exact z (frs j)
  have n2 : ∀ j : Nat, j ≠ 1 → (s1.heap.objs.size + j : Nat) ∉ fp2 := fun j hj q => by
    rcases som _ _ _ j4 q with z | z
    · have z' : (s1.heap.objs.size + j : Nat) = s1.heap.objs.size + 1 := z
      omega
    · exact z (frs j)
  have hPs : s1.heap.get? P = some { cls := .none, data := .fields ps } := I1.hok P _ hP
  have hcl : cStatics < s1.heap.objs.size := let ⟨_, hns, _⟩ := I1.nolimit; hns.lt
  have hPlt : P < s1.heap.objs.size := Heap.lt_size hPs
  have hlt1 : ∀ b ∈ fp1, b < h2.objs.size := fun b hb => by
    rcases som _ _ _ k4 hb with rfl | z
    · rw [hsz]; exact Nat.lt_add_of_pos_right (by decide)
    · cases q : H1 b with
      | none => exact absurd q z
      | some u => rw [hsz]; exact Nat.lt_of_lt_of_le (I1.hok.lt q) (Nat.le_add_right _ _)
  have hlt2 : ∀ b ∈ fp2, b < h2.objs.size := fun b hb => by
    rcases som _ _ _ j4 hb with rfl | z
    · rw [hsz]; exact Nat.add_lt_add_left (by decide) _
    · cases q : H1 b with
      | none => exact absurd q z
      | some u => rw [hsz]; exact Nat.lt_of_lt_of_le (I1.hok.lt q) (Nat.le_add_right _ _)
  have nN : ∀ j : Nat, (s1.heap.objs.size + j : Nat) ≠ P := fun j z => Nat.lt_irrefl P (Nat.lt_of_lt_of_le hPlt (Nat.le_trans (Nat.le_add_right _ j) (Nat.le_of_eq z)))
  have nfp1 : P ∉ fp1 := fun hb => by
    rcases k4 _ hb with z | ⟨xs, z⟩ | ⟨xs, z⟩
    · exact nN 0 z.symm
    · rw [hP] at z; cases z
    · rw [hP] at z; cases z
  have nfp2 : P ∉ fp2 := fun hb => by
    rcases j4 _ hb with z | ⟨xs, z⟩ | ⟨xs, z⟩
    · exact nN 1 z.symm
    · rw [hP] at z; cases z
    · rw [hP] at z; cases z
  have old : ∀ b u, s1.heap.get? b = some u → b < s1.heap.objs.size := fun b u e => Heap.lt_size e
  generalize hN : s1.heap.objs.size = N at *
  have Sp : ZipSep2 (N + 4) (N + 2) (N + 3) N (N + 1) fp1 fp2 :=
    { TIz := show (N + 2 : Nat) ≠ N + 4 by omega, TOz := show (N + 3 : Nat) ≠ N + 4 by omega, TITO := show (N + 2 : Nat) ≠ N + 3 by omega, TIi1 := show (N + 2 : Nat) ≠ N by omega, mem1 := k3, zf1 := n1 4 (by omega), Tf1 := n1 3 (by omega),
      TIi2 := show (N + 2 : Nat) ≠ N + 1 by omega, mem2 := j3, zf2 := n2 4 (by omega), Tf2 := n2 3 (by omega), sep1_2 := n2 0 (by omega), sep2_1 := n1 1 (by omega) }
  have hP2 : h2.get? P = some { cls := .none, data := .fields ps } := hk _ _ hPs
  have cd : PySem.W.CodeHd h2 c P := TB.code.keeps fun b u e => hk _ _ (I1.bk b u e)
  have lim2 : h2.NoLimit := I2.nolimit
  have hvl : z1.vals.length = l.length := by rw [hl, List.length_map]
  have hvm : z2.vals.length = m.length := by rw [hm2, List.length_map]
  have cont : ∀ (code : Value) (h3 : Heap) (tk : Nat) (ps' : Array Value), Heap.ExtBut P h2 h3 → h2.objs.size ≤ h3.objs.size → h3.get? P = some { cls := .none, data := .fields ps' } → (∃ more, ps' = ps ++ more) → TriplesOk ps'.toList →
      wpAny (model X.prog X.w) X.A (builtinsFor X.env.globals X.env.builtins) (fun bi s₄ =>
        ∃ Ia fp wr n₀ Pt St₀ Mid pz F, Value.ref (N + 4 : Nat) = .ref Ia ∧ (∀ A' : Around, A'.handled = none → WalksU X.prog X.w A' Ia fp wr n₀ Pt St₀ Mid) ∧ (∀ i vals, Pt i vals → ∃ va vb, vals = #[va, vb]) ∧ St₀ 0 s₄.heap ∧ (∀ b ∈ fp, b < s₄.heap.objs.size) ∧ s₄.heap.NoLimit ∧ cStatics ∉ wr ∧
          (∀ href : Heap, (∀ b o, s₄.heap.get? b = some o → href.get? b = some o) →
            QuietGenT X.prog X.w (genEnv scope (cloFrom X.env.cells scope.names []) s₄.heap.objs.size code bi X.env) x y [] elt (List.range s₄.heap.objs.size) wr Pt pz F href) ∧
          (∀ a h₅ tk gs, gs.bare = true → s₄.heap.objs.size < a → h₅.objs.size = a + 1 → (∀ b o, s₄.heap.get? b = some o → h₅.get? b = some o) →
            WalksS X.prog X.w X.A.in4 a (a :: s₄.heap.objs.size :: List.range s₄.heap.objs.size) (s₄.heap.objs.size :: wr) (GenOnlyQ s₄.gens.size) (passing pz n₀ 0).length
              (fun j y => ∃ i, (passing pz n₀ 0)[j]? = some i ∧ F i y) (GenAt X.prog X.w X.A.in4 a s₄.gens.size s₄.heap.objs.size (List.range s₄.heap.objs.size) wr pz n₀ F) →
            GenAt X.prog X.w X.A.in4 a s₄.gens.size s₄.heap.objs.size (List.range s₄.heap.objs.size) wr pz n₀ F 0 { s₄ with gens := s₄.gens.push gs, toks := tk, heap := h₅ } →
            Q' (.ref a) { s₄ with gens := s₄.gens.push gs, toks := tk, heap := h₅ })) X.xe { s1 with heap := h3, toks := tk } := by
    intro code h3 tk ps' hx hsz3 hP3 hmore ht3
    obtain ⟨bm, ob, e1, e2, e3, e4, e5, e6, e7, e8⟩ := TB.bm
    have hcP : cStatics ≠ P := fun e => by
      obtain ⟨_, hns, _⟩ := I1.nolimit
      obtain ⟨o', es, ep, ho, hd, _⟩ := hns
      rw [e, hPs] at ho
      cases ho
      cases hd
    have keep3 : ∀ b u, b ≠ P → s1.heap.get? b = some u → h3.get? b = some u := fun b u hb e => hx b u hb (hk _ _ e)
    refine wpAny_builtinsFor (m := X.mg) (by rw [I1.ok.glob]; exact ((I1.mod.glob.keeps I1.bk).keeps hk).extBut hx TB.gP) e1 e2 (keep3 _ _ e4 (I1.bk _ _ e5)) e6 e7 e8 ?_
    have W : ∀ A' : Around, A'.handled = none → WalksT X.prog X.w A' (N + 4) ((N + 4) :: (N + 2) :: (N + 3) :: (fp1 ++ fp2)) [N + 4, N + 3, N, N + 1] (min z1.vals.length z2.vals.length) _ _ _ := fun A' hA => WalksT.zipD2 (A := A') Sp (D1 A' hA) (D2 A' hA)
    have fpP : ∀ b ∈ ((N + 4 : Nat) :: (N + 2) :: (N + 3) :: (fp1 ++ fp2) : List Addr), b ≠ P := fun b hb z => by
      simp only [List.mem_cons, List.mem_append] at hb
      rcases hb with w | w | w | w | w
      · exact nN 4 (w.symm.trans z)
      · exact nN 2 (w.symm.trans z)
      · exact nN 3 (w.symm.trans z)
      · exact nfp1 (z ▸ w)
      · exact nfp2 (z ▸ w)
    refine ⟨(N + 4 : Nat), _, _, _, _, _, _, (fun _ => true), (fun i v => ∃ p q, l[i]? = some p ∧ m[i]? = some q ∧ v = .bool (pb p q)), rfl, fun A' hA => (W A' hA).toU, ?_, ?_, ?_, lim2.extBut hx hcP, ?_, ?_, ?_⟩
    · rintro i vals ⟨x1, x2, _, _, rfl⟩
      exact ⟨_, _, rfl⟩
    · exact (W X.A hr.hd).frame 0 h2 h3 ⟨a1, a2, ⟨_, _, a3⟩, k1, j1⟩ fun b hb o e => hx b o (fpP b hb) e
    · intro b hb
      show b < h3.objs.size
      refine Nat.lt_of_lt_of_le ?_ hsz3
      simp only [List.mem_cons, List.mem_append] at hb
      rcases hb with w | w | w | w | w
      · rw [w, hsz]; exact Nat.add_lt_add_left (by decide) _
      · rw [w, hsz]; exact Nat.add_lt_add_left (by decide) _
      · rw [w, hsz]; exact Nat.add_lt_add_left (by decide) _
      · exact hlt1 b w
      · exact hlt2 b w
    · intro z
      simp only [List.mem_cons, List.not_mem_nil, or_false] at z
      rcases z with w | w | w | w
      · exact Nat.lt_irrefl _ (Nat.lt_of_lt_of_le hcl (Nat.le_trans (Nat.le_add_right N 4) (Nat.le_of_eq w.symm)))
      · exact Nat.lt_irrefl _ (Nat.lt_of_lt_of_le hcl (Nat.le_trans (Nat.le_add_right N 3) (Nat.le_of_eq w.symm)))
      · exact Nat.lt_irrefl _ (Nat.lt_of_lt_of_le hcl (Nat.le_of_eq w.symm))
      · exact Nat.lt_irrefl _ (Nat.lt_of_lt_of_le hcl (Nat.le_trans (Nat.le_add_right N 1) (Nat.le_of_eq w.symm)))
    · intro href hhref
      refine ⟨fun A' E' i va vb s₂ m₂ hA hPv hn hma hmb hkk => ?_, fun A' E' i va vb s₂ m₂ hA hPv hp hn hma hmb hkk => ?_⟩
      · simp only [List.forIn_nil]
        exact wpAny_pure ⟨rfl, keeps_refl _⟩
      · obtain ⟨x1, x2, hx1, hx2, hv⟩ := hPv
        have hv' : va = x1 ∧ vb = x2 := by simpa using hv
        obtain ⟨rfl, rfl⟩ := hv'
        obtain ⟨y1, hy1, ry1⟩ := k2 i va hx1
        obtain ⟨y2, hy2, ry2⟩ := j2 i vb hx2
        rw [hl, List.getElem?_map] at hy1
        rw [hm2, List.getElem?_map] at hy2
        cases ql : l[i]? with
        | none => rw [ql] at hy1; cases hy1
        | some p =>
          cases qm : m[i]? with
          | none => rw [qm] at hy2; cases hy2
          | some q =>
            rw [ql] at hy1
            rw [qm] at hy2
            cases hy1
            cases hy2
            obtain ⟨t, rfl⟩ := ry1
            obtain ⟨u, rfl⟩ := ry2
            exact wpAny_mono (hel _ A' E' p q t u s₂ m₂ rfl hn hma hmb) (fun y s3 r => ⟨⟨p, q, rfl, rfl, r.1⟩, r.2⟩) fun _ _ e => e
    · intro g h5 tk5 gs hgb hag hsz5 hk5 W5 hat
      simp only [GxR.passing_true, List.length_range, hvl, hvm] at W5 hat
      refine hQ l m H1 g _ q1 ⟨_, _, _, _, _, W5.in4_1, hat, ?_, fun s' hmv => ?_⟩
      · intro j y sj Qj Ej hy hQj
        obtain ⟨i, hij, p, q, hp, hq, rfl⟩ := hy
        obtain ⟨hj, ej⟩ := List.getElem?_eq_some_iff.mp hij
        rw [List.getElem_range] at ej
        subst ej
        have hQ2 : Qj (zipB pb l m j) sj := hQj
        rw [show zipB pb l m j = pb p q by unfold zipB; rw [hp, hq]] at hQ2
        exact wpAny_truthy_bool hQ2
      · obtain ⟨more, em⟩ := hmore
        have nwr : ∀ b u, s1.heap.get? b = some u → b ∉ (h3.objs.size :: [N + 4, N + 3, N, N + 1] : List Addr) := fun b u e hb => by
          have hlt : (b : Nat) < N := old b u e
          have hs5 : N + 5 ≤ h3.objs.size := by rw [← hsz]; exact hsz3
          simp only [List.mem_cons, List.not_mem_nil, or_false] at hb
          rcases hb with w | w | w | w | w
          · exact Nat.lt_irrefl _ (Nat.lt_of_lt_of_le hlt (Nat.le_trans (Nat.le_trans (Nat.le_add_right N 5) hs5) (Nat.le_of_eq w.symm)))
          · exact Nat.lt_irrefl _ (Nat.lt_of_lt_of_le hlt (Nat.le_trans (Nat.le_add_right N 4) (Nat.le_of_eq w.symm)))
          · exact Nat.lt_irrefl _ (Nat.lt_of_lt_of_le hlt (Nat.le_trans (Nat.le_add_right N 3) (Nat.le_of_eq w.symm)))
          · exact Nat.lt_irrefl _ (Nat.lt_of_lt_of_le hlt (Nat.le_of_eq w.symm))
          · exact Nat.lt_irrefl _ (Nat.lt_of_lt_of_le hlt (Nat.le_trans (Nat.le_add_right N 1) (Nat.le_of_eq w.symm)))
        have J := inv_tab (more := more) (h' := s'.heap) (g' := s'.gens) (d' := s'.drawn) (t' := s'.toks) I1 hP (fun b u hb e => hmv.heap b u (nwr b u e) (hk5 b u (keep3 b u hb e)))
          (by rw [← em]; exact hmv.heap P _ (nwr P _ hPs) (hk5 P _ hP3)) (AllBare.movedS (I1.bare.push hgb) hmv)
        rw [sh_eta s1 s' hmv.os] at J
        refine ⟨upd H1 P (.tbl (ps ++ more)), ⟨⟨ps ++ more, upd_same, by rw [← em]; exact ht3⟩, fun b hb => upd_ne hb⟩, J⟩
  refine ⟨lim2, ?_⟩
  cases hf : codeAmong gpos ps.toList with
  | none =>
    refine wpAny_genexprCodeX hcode (cd.code hP2 ht) (cd.tab hP2) hf fun c' h' tk hx hge hlt hco' _ htab' _ => ?_
    obtain ⟨o1, vs, f1, tf, fl, tg, inF, tx, tt, op, _, _, _, _, _, _, _, _, _, htr, _⟩ := hco'
    exact cont _ h' tk _ hx (Nat.le_trans hge (Nat.le_of_lt hlt)) htab'.2 ⟨_, rfl⟩ htr
  | some cv =>
    refine wpAny_genexprCode_hit hcode (cd.code hP2 ht) hf ?_
    exact cont cv h2 s1.toks ps (Heap.ExtBut.refl _ _) (Nat.le_refl _) hP2 ⟨#[], by simp⟩ ht
def tAllZ (P : Addr) (pb : Int → Int → Bool) (ta : TA) : TE := fun σ H Q => ta σ H fun vs H1 => ∃ (z1 z2 : Src) (l m : List Int), vs = [z1.v, z2.v] ∧ z1.ok H1 ∧ z2.ok H1 ∧ z1.vals = l.map V.int ∧ z2.vals = m.map V.int ∧ TabG H1 P ∧ ∀ H2, Tabbed P H1 H2 → Q (.bl ((l.zip m).all fun q => pb q.1 q.2)) H2
theorem pe_allZ {c P : Addr} {elt e f : Expr} {x y : Str} {px py pt zp pos gpos p ppos : Pos} {kt : Nat} {scope : Scope} {pb : Int → Int → Bool} {ta : TA} {k : Nat}
    (hr : Room k X.A) (hg : Gl X "all") (hm : X.mg "all" = none) (hb : bootBuiltins "all" = some (.builtin "all")) (hgz : Gl X "zip") (hmz : X.mg "zip" = none) (TB : TabB X.base X.mg c P) (hcode : X.env.code = .ref c) (S : GenZ X.env scope x y) (ha : PA X [e, f] ta) (hel : EltZ X.prog X.w scope x y elt pb)
    (hst : starEach [e, f] X.env = (false, eval e X.env) :: starEach [f] X.env := by rfl) (hpl : (backTo pos (starEach [f] X.env)).any (·.1) = false := by rfl)
    (hs : ∀ v, genFold (.Call (.Name "zip" zp) [e, f] [] pos) X.env v = pure v := by intro _; rfl)
    (he : starEach [.GeneratorExp elt [⟨.Tuple [.Name x px, .Name y py] kt pt, .Call (.Name "zip" zp) [e, f] [] pos, [], 0⟩] scope gpos] X.env = (false, eval (.GeneratorExp elt [⟨.Tuple [.Name x px, .Name y py] kt pt, .Call (.Name "zip" zp) [e, f] [] pos, [], 0⟩] scope gpos) X.env) :: starEach [] X.env := by rfl) :
    PE X (.Call (.Name "all" p) [.GeneratorExp elt [⟨.Tuple [.Name x px, .Name y py] kt pt, .Call (.Name "zip" zp) [e, f] [] pos, [], 0⟩] scope gpos] [] ppos) (tAllZ P pb ta) := by
  refine ⟨fun pins s σ H Q I h => ?_⟩
  refine wpAny_Call_Name_kw (ld_blt I hg hm hb ?_)
  refine PyProof.Rows.callWith_builtin1 ?_ he (by rfl)
  rw [he]
  show wpAny _ _ (spliced ((false, eval (.GeneratorExp elt [⟨.Tuple [.Name x px, .Name y py] kt pt, .Call (.Name "zip" zp) [e, f] [] pos, [], 0⟩] scope gpos) X.env) :: backTo ppos (starEach [] X.env))) _ _ s
  refine Calls.spliced_cons (gen_zip (R := fun l m H1 => ∀ H2, Tabbed P H1 H2 → Q (.bl ((l.zip m).all fun q => pb q.1 q.2)) H2) hr hgz hmz TB hcode S ha hel hst hpl hs I h fun l m H1 g s5 hR hG => ?_)
  obtain ⟨fp, wr, G, F, St, W, hst, htr, hI⟩ := hG
  refine Calls.spliced_nil ?_
  refine call_all_walkS (W.self 0 _ _ _ hst ⟨g, fp, wr, G, _, F, St, _, rfl, W, hst, htr, fun s' hmv => ?_⟩)
  obtain ⟨H2, hT, J⟩ := hI s' hmv
  refine ⟨.bl _, H2, J, rfl, ?_⟩
  rw [all_zip pb l m]
  exact hR H2 hT
end
section
variable {X : Cx} {C : Cfg} {F G0 G G' H H' : Hp} {pn : Option (Nat × Addr)} {σ : St} {e e' : Env'} {x y : Ex} {o : Expr} {es : List Expr}
def allZL (pb : Int → Int → Bool) (l m : List D) : Option D := match intsOf l, intsOf m with
  | some l, some m => some (.bl ((l.zip m).all fun q => pb q.1 q.2))
  | _, _ => none
def allZF (pb : Int → Int → Bool) : List D → Option D
  | [.lst l, .lst m] => allZL pb l m
  | [.tup l, .tup m] => allZL pb l m
  | _ => none
theorem allZF_boo {pb : Int → Int → Bool} : Boo (allZF pb) := fun ds d h => by
  unfold allZF at h
  split at h <;> first
    | (unfold allZL at h; split at h <;> first | (cases h; exact ⟨_, rfl⟩) | cases h)
    | cases h
theorem allZF_srcs {pb : Int → Int → Bool} {ds : List D} {d : D} {vs : List V} (h : allZF pb ds = some d) (r : RepL C.K G vs ds) : ∃ (z1 z2 : Src) (l m : List Int), vs = [z1.v, z2.v] ∧ z1.ok G ∧ z2.ok G ∧ z1.vals = l.map V.int ∧ z2.vals = m.map V.int ∧ d = .bl ((l.zip m).all fun q => pb q.1 q.2) := by
  unfold allZF at h
  split at h
  · rename_i l m
    unfold allZL at h
    split at h
    · rename_i l' m' hl hm
      cases h
      cases r with
      | cons ra rb =>
        cases rb with
        | cons rb rc =>
          cases rc
          cases ra with
          | lst q rr =>
            cases rb with
            | lst q2 rr2 =>
              rw [intsOf_map hl] at rr
              rw [intsOf_map hm] at rr2
              exact ⟨.lst _ _, .lst _ _, l', m', rfl, q, q2, rr.ints, rr2.ints, rfl⟩
    · cases h
  · rename_i l m
    unfold allZL at h
    split at h
    · rename_i l' m' hl hm
      cases h
      cases r with
      | cons ra rb =>
        cases rb with
        | cons rb rc =>
          cases rc
          cases ra with
          | tup q rr =>
            cases rb with
            | tup q2 rr2 =>
              rw [intsOf_map hl] at rr
              rw [intsOf_map hm] at rr2
              exact ⟨.tup _ _, .tup _ _, l', m', rfl, q, q2, rr.ints, rr2.ints, rfl⟩
    · cases h
  · cases h
theorem ce_allZ {P : Addr} {pb : Int → Int → Bool} (h : ∀ {ta : TA}, PA X es ta → PE X o (tAllZ P pb ta)) (hP : P ∈ C.tt) (ha : PA X es (tA C [x, y])) : PE X o (tE C (.mk (allZF pb) [x, y])) := (h ha).imp fun σ H Q q => by
  obtain ⟨F, G0, G, pn, e, r, e', R, he, k⟩ := q
  obtain ⟨rs, e1, ds, d, q1, q2, q3, rfl⟩ := ev_mk he
  refine ⟨F, G0, G, pn, e, rs, e1, R, q1, fun vs G1 H1 R1 s1 r1 => ?_⟩
  obtain ⟨G2, s2, R2, r2, _⟩ := Rel.settles R1 r1 q2
  obtain ⟨z1, z2, l, m, hv, o1, o2, v1, v2, rfl⟩ := allZF_srcs q3 r2
  refine ⟨z1, z2, l, m, hv, o1.mono R2.gh, o2.mono R2.gh, v1, v2, (R2.tb P hP).1, fun H2 ht => ?_⟩
  exact k (.bl _) G2 H2 (R2.grow (grow_tab R2.gh R2.tabs hP (R2.tb P hP).2.1 ht)) (s1.trans s2) (.bl _)
theorem genZ_of {env : Env} {scope : Scope} {x y : Str} (h1 : scope.kind = .function) (h2 : scope.isCoroutine = false) (h3 : ∀ y ∈ scope.names, y.2 ≠ .cell) (h4 : scope.names.lookup (".0" : Str) = some NameKind.local) (h5 : scope.names.lookup x = some .local) (h6 : scope.names.lookup y = some .local) (hn : x ≠ y)
    (h7 : ∀ y ∈ scope.names, y.2 ≠ .free) : GenZ env scope x y := ⟨h1, h2, h3, h4, h5, h6, hn, fun y hy e => absurd e (h7 y hy)⟩
end
end Mi
namespace Mi
open PySem PySem.Spec PyProof.Rows L2 GxR
theorem relab_lookup (env : Env) (x : Str) : ∀ (names : List (Str × NameKind)), (names.lookup x = some .cell ∨ names.lookup x = some .free) →
    ((names.map fun (n, k) => if (k == NameKind.free && env.scope.kind == .function && env.kindOf n == some .cell) then (n, NameKind.cell) else (n, k)).lookup x = some .cell ∨ (names.map fun (n, k) => if (k == NameKind.free && env.scope.kind == .function && env.kindOf n == some .cell) then (n, NameKind.cell) else (n, k)).lookup x = some .free)
  | [], h => by simp at h
  | (n, k) :: r, h => by
    rw [List.map_cons]
    simp only [List.lookup_cons] at h ⊢
    by_cases hx : (x == n) = true
    · rw [hx] at h
      simp only [Option.some.injEq] at h
      by_cases z : (k == NameKind.free && env.scope.kind == .function && env.kindOf n == some .cell) = true
      · rw [if_pos z, List.lookup_cons, hx]; exact .inl rfl
      · rw [if_neg z, List.lookup_cons, hx]
        simpa using h
    · have hx' : (x == n) = false := by simpa using hx
      rw [hx'] at h
      by_cases z : (k == NameKind.free && env.scope.kind == .function && env.kindOf n == some .cell) = true
      · rw [if_pos z, List.lookup_cons, hx']; exact relab_lookup env x r h
      · rw [if_neg z, List.lookup_cons, hx']; exact relab_lookup env x r h
/-- a block within a block -/
theorem blkN {X : Cx} {s : Shared} {H : Hp} {scope0 scope : Scope} {Cc : Addr} {cl : List (Str × Addr)} {fp : List Addr} {N2 : List Str} {own : List (Str × Nat)} (hN : X.N = N2) (h : BlkOk N2 scope0 scope own) : BlkOk (X.blk s H scope0 (compEnvC scope0 cl Cc X.env) fp).N (X.blk s H scope0 (compEnvC scope0 cl Cc X.env) fp).env.scope scope own := by
  subst hN
  exact ⟨h.kind, h.uniq, h.ix, fun y hy e => relab_lookup X.env y.1 scope0.names (h.free y hy e), h.own⟩
end Mi

/-! max and min of alike data. -/
namespace Mi
open PySem PySem.Spec PyProof.Rows L2 GxR
mutual
theorem py_inj : ∀ (n : Nat) (a b : D), a.shp n = true → b.shp n = true → a.py = b.py → a = b
  | n, .non, b, _, h2, e => by cases b <;> simp [D.py, D.shp] at e h2 ⊢
  | n, .bl x, b, _, h2, e => by cases b <;> simp [D.py, D.shp] at e h2 ⊢ <;> exact e
  | n, .int x, b, _, h2, e => by cases b <;> simp [D.py, D.shp] at e h2 ⊢ <;> exact e
  | n, .str x, b, _, h2, e => by cases b <;> simp [D.py] at e ⊢ <;> exact e
  | 0, .lst x, b, h1, _, _ => by simp [D.shp] at h1
  | 0, .tup x, b, h1, _, _ => by simp [D.shp] at h1
  | n + 1, .lst x, b, h1, h2, e => by
    cases b <;> simp only [D.py, reduceCtorEq, PyData.list.injEq] at e
    rename_i y
    simp only [D.shp] at h1 h2
    rw [py_injL n x y h1 h2 e]
  | n + 1, .tup x, b, h1, h2, e => by
    cases b <;> simp only [D.py, reduceCtorEq, PyData.tuple.injEq] at e
    rename_i y
    simp only [D.shp] at h1 h2
    rw [py_injL n x y h1 h2 e]
  | n, .dic _ _, b, h1, _, _ => by simp [D.shp] at h1
  | n, .scr _, b, h1, _, _ => by simp [D.shp] at h1
theorem py_injL : ∀ (n : Nat) (a b : List D), D.shpL n a = true → D.shpL n b = true → D.pyL a = D.pyL b → a = b
  | n, [], b, _, _, e => by cases b <;> simp [D.pyL] at e ⊢
  | n, x :: a, b, h1, h2, e => by
    cases b with
    | nil => simp [D.pyL] at e
    | cons y b =>
      simp only [D.pyL, List.cons.injEq] at e
      simp only [D.shpL, Bool.and_eq_true] at h1 h2
      rw [py_inj n x y h1.1 h2.1 e.1, py_injL n a b h1.2 h2.2 e.2]
end
def dlt (a b : D) : Bool := W.dataLt a.py b.py
def maxL (x : D) (l : List D) : D := l.foldl (fun a y => if dlt a y then y else a) x
def minL (x : D) (l : List D) : D := l.foldl (fun a y => if dlt y a then y else a) x
theorem maxL_py : ∀ (l : List D) (x : D), (maxL x l).py = W.maxD x.py (l.map D.py)
  | [], _ => rfl
  | y :: l, x => by
    have := maxL_py l (if dlt x y then y else x)
    unfold maxL W.maxD at *
    rw [List.foldl_cons, this, List.map_cons, List.foldl_cons]
    congr 1
    by_cases hd : dlt x y = true
    · rw [if_pos hd]; unfold dlt at hd; rw [if_pos hd]
    · rw [if_neg hd]; unfold dlt at hd; rw [if_neg hd]
theorem minL_py : ∀ (l : List D) (x : D), (minL x l).py = W.minD x.py (l.map D.py)
  | [], _ => rfl
  | y :: l, x => by
    have := minL_py l (if dlt y x then y else x)
    unfold minL W.minD at *
    rw [List.foldl_cons, this, List.map_cons, List.foldl_cons]
    congr 1
    by_cases hd : dlt y x = true
    · rw [if_pos hd]; unfold dlt at hd; rw [if_pos hd]
    · rw [if_neg hd]; unfold dlt at hd; rw [if_neg hd]
theorem maxL_mem : ∀ (l : List D) (x : D), maxL x l ∈ x :: l
  | [], _ => List.mem_cons_self
  | y :: l, x => by
    have := maxL_mem l (if dlt x y then y else x)
    unfold maxL at *
    rw [List.foldl_cons]
    rcases List.mem_cons.mp this with h | h
    · rw [h]; split
      · exact List.mem_cons_of_mem _ List.mem_cons_self
      · exact List.mem_cons_self
    · exact List.mem_cons_of_mem _ (List.mem_cons_of_mem _ h)
theorem minL_mem : ∀ (l : List D) (x : D), minL x l ∈ x :: l
  | [], _ => List.mem_cons_self
  | y :: l, x => by
    have := minL_mem l (if dlt y x then y else x)
    unfold minL at *
    rw [List.foldl_cons]
    rcases List.mem_cons.mp this with h | h
    · rw [h]; split
      · exact List.mem_cons_of_mem _ List.mem_cons_self
      · exact List.mem_cons_self
    · exact List.mem_cons_of_mem _ (List.mem_cons_of_mem _ h)
section
variable {X : Cx} {C : Cfg}
/-- the first of the greatest (least) of alike things -/
def rBest (K : Frag) (g : PyData → List PyData → PyData) : List V → Hp → VK → Prop := fun vs H Q => ∃ (a : Addr) (p : V × D) (ps : List (V × D)), vs = [.ref a] ∧ (SqL K H a ((p :: ps).map (·.1)) ∨ SqT K H a ((p :: ps).map (·.1))) ∧ (∀ q ∈ p :: ps, Dp K H q.1 q.2.py ∧ q.2.shp 16 = true) ∧ W.AlikeAll ((p :: ps).map fun q => q.2.py) ∧
  ∀ q ∈ p :: ps, q.2.py = g p.2.py (ps.map fun q => q.2.py) → Q q.1 H
theorem dps_of {K : Frag} {H : Hp} : ∀ {ps : List (V × D)}, (∀ q ∈ ps, Dp K H q.1 q.2.py) → DpAll K H (ps.map (·.1)) (ps.map fun q => q.2.py)
  | [], _ => .nil
  | p :: ps, h => .cons (h p List.mem_cons_self) (dps_of fun q hq => h q (List.mem_cons_of_mem _ hq))
theorem depths_of : ∀ {ps : List (V × D)}, (∀ q ∈ ps, q.2.shp 16 = true) → PyData.depthAll (ps.map fun q => q.2.py) ≤ 16
  | [], _ => by simp [PyData.depthAll]
  | p :: ps, h => by
    have h1 := (shp_can 16 p.2 (h p List.mem_cons_self)).2
    have h2 := depths_of (ps := ps) fun q hq => h q (List.mem_cons_of_mem _ hq)
    simp only [List.map_cons, PyData.depthAll]
    omega
theorem vals_at : ∀ {ps : List (V × D)} {us : List Value}, Vals (ps.map (·.1)) us → ∀ (i : Nat) (v : Value), us[i]? = some v → ∃ q ∈ ps, RelV q.1 v
  | [], us, h, i, v, e => by cases h; simp at e
  | p :: ps, us, h, i, v, e => by
    cases h with
    | cons a b =>
      cases i with
      | zero => simp only [List.getElem?_cons_zero, Option.some.injEq] at e; subst e; exact ⟨p, List.mem_cons_self, a⟩
      | succ i =>
        rw [List.getElem?_cons_succ] at e
        obtain ⟨q, hq, r⟩ := vals_at b i v e
        exact ⟨q, List.mem_cons_of_mem _ hq, r⟩
theorem cr_maxB (hc : X.calm = true) (hu : X.A.units + 100 < cLine) : CallR X (.builtin "max") (rBest X.K W.maxD) := by
  intro pins s σ H vs us Q I r h
  obtain ⟨a, p, ps, rfl, hs, hp, hal, q⟩ := h
  rw [Vals.ref1 r]
  have hd := depths_of (ps := p :: ps) fun q hq => (hp q hq).2
  have fin : ∀ {its : List Value}, Vals ((p :: ps).map (·.1)) its → ∀ {i : Nat} {v : Value} {h' : Heap} {tk : Nat} {bs : List Addr}, its.toArray[i]? = some v → Reads h' v (W.maxD p.2.py (ps.map fun q => q.2.py)) bs → (∀ b o, s.heap.get? b = some o → h'.get? b = some o) → EP X pins σ Q v { s with heap := h', toks := tk } := fun {its} rv {i v h' tk bs} hi hr hk => by
    obtain ⟨z, hz, rz⟩ := vals_at rv i v (by simpa using hi)
    obtain ⟨as, hr2⟩ := Dp.reads I _ _ v (hp z hz).1 rz
    have e := (Reads.unique (Reads.keeps hk hr2) _ _ hr).1
    exact ⟨z.1, H, I.kept hk, rz, q z hz e⟩
  rcases hs with hs | hs
  · obtain ⟨its, rv, hl, _⟩ := I.list hs
    obtain ⟨as, hr⟩ := Dp.readsAll I _ _ its (dps_of fun q hq => (hp q hq).1) rv
    exact W.max_list_data (I.ok.hd hc) hl.isList (by simpa using hr) hal (by rw [show (p.2.py :: ps.map fun q => q.2.py) = (p :: ps).map fun q => q.2.py from rfl]; omega) fun i v h' tk bs hi hr hk => fin rv hi hr hk
  · obtain ⟨its, rv, hl, _⟩ := I.tuple hs
    obtain ⟨as, hr⟩ := Dp.readsAll I _ _ its (dps_of fun q hq => (hp q hq).1) rv
    exact W.max_tuple_data (I.ok.hd hc) hl (by simpa using hr) hal (by rw [show (p.2.py :: ps.map fun q => q.2.py) = (p :: ps).map fun q => q.2.py from rfl]; omega) fun i v h' tk bs hi hr hk => fin rv hi hr hk
theorem cr_minB (hc : X.calm = true) (hu : X.A.units + 100 < cLine) : CallR X (.builtin "min") (rBest X.K W.minD) := by
  intro pins s σ H vs us Q I r h
  obtain ⟨a, p, ps, rfl, hs, hp, hal, q⟩ := h
  rw [Vals.ref1 r]
  have hd := depths_of (ps := p :: ps) fun q hq => (hp q hq).2
  have fin : ∀ {its : List Value}, Vals ((p :: ps).map (·.1)) its → ∀ {i : Nat} {v : Value} {h' : Heap} {tk : Nat} {bs : List Addr}, its.toArray[i]? = some v → Reads h' v (W.minD p.2.py (ps.map fun q => q.2.py)) bs → (∀ b o, s.heap.get? b = some o → h'.get? b = some o) → EP X pins σ Q v { s with heap := h', toks := tk } := fun {its} rv {i v h' tk bs} hi hr hk => by
    obtain ⟨z, hz, rz⟩ := vals_at rv i v (by simpa using hi)
    obtain ⟨as, hr2⟩ := Dp.reads I _ _ v (hp z hz).1 rz
    have e := (Reads.unique (Reads.keeps hk hr2) _ _ hr).1
    exact ⟨z.1, H, I.kept hk, rz, q z hz e⟩
  rcases hs with hs | hs
  · obtain ⟨its, rv, hl, _⟩ := I.list hs
    obtain ⟨as, hr⟩ := Dp.readsAll I _ _ its (dps_of fun q hq => (hp q hq).1) rv
    exact W.min_list_data (I.ok.hd hc) hl.isList (by simpa using hr) hal (by rw [show (p.2.py :: ps.map fun q => q.2.py) = (p :: ps).map fun q => q.2.py from rfl]; omega) fun i v h' tk bs hi hr hk => fin rv hi hr hk
  · obtain ⟨its, rv, hl, _⟩ := I.tuple hs
    obtain ⟨as, hr⟩ := Dp.readsAll I _ _ its (dps_of fun q hq => (hp q hq).1) rv
    exact W.min_tuple_data (I.ok.hd hc) hl (by simpa using hr) hal (by rw [show (p.2.py :: ps.map fun q => q.2.py) = (p :: ps).map fun q => q.2.py from rfl]; omega) fun i v h' tk bs hi hr hk => fin rv hi hr hk
def bestL (f : D → List D → D) : List D → Option D
  | [] => none
  | x :: r => if x.same x = true ∧ r.all (fun y => x.same y) = true ∧ (x :: r).all (fun y => y.shp 16) = true then some (f x r) else none
def bestF (f : D → List D → D) : List D → Option D
  | [.lst l] => bestL f l
  | [.tup l] => bestL f l
  | _ => none
theorem bestF_ok (hK : C.K = X.K) {f : D → List D → D} {g : PyData → List PyData → PyData} (hf : ∀ l x, (f x l).py = g x.py (l.map D.py)) (hm : ∀ l x, f x l ∈ x :: l) : OkN C (rBest X.K g) (bestF f) := fun vs ds d G H Q s t r e k => by
  have main : ∀ (a : Addr) (xs : List V) (l : List D), bestL f l = some d → RepL C.K G xs l → (SqL X.K H a xs ∨ SqT X.K H a xs) → rBest X.K g [.ref a] H Q := fun a xs l hl rr hsq => by
    cases l with
    | nil => cases hl
    | cons x l =>
      simp only [bestL] at hl
      by_cases hz : x.same x = true ∧ l.all (fun y => x.same y) = true ∧ (x :: l).all (fun y => y.shp 16) = true
      case neg => rw [if_neg hz] at hl; cases hl
      rw [if_pos hz] at hl
      obtain ⟨h2, h3, h4⟩ := hz
      cases hl
      have hs : ∀ a ∈ x :: l, x.same a = true := fun a ha => by
        rcases List.mem_cons.mp ha with rfl | ha
        · exact h2
        · exact List.all_eq_true.mp h3 a ha
      obtain ⟨z1, z2, z3⟩ := repL_zip rr
      cases hps : xs.zip (x :: l) with
      | nil => rw [hps] at z2; simp at z2
      | cons p ps =>
        rw [hps] at z1 z2 z3
        have e2 : ((p :: ps).map fun q => q.2.py) = (x :: l).map D.py := by
          have e0 : ((p :: ps).map fun q => q.2.py) = ((p :: ps).map (·.2)).map D.py := by rw [List.map_map]; rfl
          rw [e0, z2]
        have hp2 : ∀ q ∈ p :: ps, q.2 ∈ x :: l := fun q hq => by rw [← z2]; exact List.mem_map.mpr ⟨q, hq, rfl⟩
        have hsh : ∀ q ∈ p :: ps, q.2.shp 16 = true := fun q hq => List.all_eq_true.mp h4 _ (hp2 q hq)
        have ex : p.2 = x ∧ ps.map (·.2) = l := by simpa using z2
        refine ⟨a, p, ps, rfl, by rw [z1]; exact hsq, fun q hq => ⟨by rw [← hK]; exact rep_dp 16 _ _ (hsh q hq) ((z3 q hq).mono s), hsh q hq⟩, ?_, fun q hq hqe => ?_⟩
        · rw [e2]
          refine ⟨fun d hd d' hd' => ?_, fun d hd => ?_⟩
          · obtain ⟨a, ha, rfl⟩ := List.mem_map.mp hd
            obtain ⟨b, hb, rfl⟩ := List.mem_map.mp hd'
            exact same_alike x a b (hs a ha) (hs b hb)
          · obtain ⟨a, ha, rfl⟩ := List.mem_map.mp hd
            have := hs a ha
            cases x <;> cases a <;> simp_all [D.same, D.py]
        · have e3 : (ps.map fun q => q.2.py) = l.map D.py := by
            have e0 : (ps.map fun q => q.2.py) = (ps.map (·.2)).map D.py := by rw [List.map_map]; rfl
            rw [e0, ex.2]
          rw [e3, ex.1, ← hf] at hqe
          have e4 := py_inj 16 _ _ (hsh q hq) (List.all_eq_true.mp h4 _ (hm l x)) hqe
          exact res_flat s t k (e4 ▸ z3 q hq)
  unfold bestF at e
  split at e
  · rename_i l
    obtain ⟨v, rfl, rv⟩ := repTs_one r
    cases rv with
    | lst q rr => exact main _ _ l e rr (.inl (SqL.of q))
  · rename_i l
    obtain ⟨v, rfl, rv⟩ := repTs_one r
    cases rv with
    | tup g q rr => exact main _ _ l e rr (.inr (SqT.of q))
  · cases e
/-! numbers, or alike things -/
def rOr (r1 r2 : List V → Hp → VK → Prop) : List V → Hp → VK → Prop := fun vs H Q => r1 vs H Q ∨ r2 vs H Q
theorem cr_or {c : Value} {r1 r2 : List V → Hp → VK → Prop} (h1 : CallR X c r1) (h2 : CallR X c r2) : CallR X c (rOr r1 r2) := fun pins s σ H vs us Q I r h => by
  rcases h with h | h
  · exact h1 pins s σ H vs us Q I r h
  · exact h2 pins s σ H vs us Q I r h
def orF (f g : List D → Option D) (ds : List D) : Option D := match f ds with
  | some d => some d
  | none => g ds
theorem orF_ok {r1 r2 : List V → Hp → VK → Prop} {f g : List D → Option D} (h1 : OkN C r1 f) (h2 : OkN C r2 g) : OkN C (rOr r1 r2) (orF f g) := fun vs ds d G H Q s t r e k => by
  unfold orF at e
  split at e
  · rename_i d' hf
    cases e
    exact .inl (h1 vs ds d G H Q s t r hf k)
  · exact .inr (h2 vs ds d G H Q s t r e k)
abbrev maxAF := orF maxIF (bestF maxL)
abbrev minAF := orF minIF (bestF minL)
theorem cr_maxA (hc : X.calm = true) (hu : X.A.units + 100 < cLine) : CallR X (.builtin "max") (rOr (rNums X.K fun n ns => ns.foldl max n) (rBest X.K W.maxD)) := cr_or (cr_maxI hc hu) (cr_maxB hc hu)
theorem cr_minA (hc : X.calm = true) (hu : X.A.units + 100 < cLine) : CallR X (.builtin "min") (rOr (rNums X.K fun n ns => ns.foldl min n) (rBest X.K W.minD)) := cr_or (cr_minI hc hu) (cr_minB hc hu)
theorem maxAF_ok (hK : C.K = X.K) : OkN C (rOr (rNums X.K fun n ns => ns.foldl max n) (rBest X.K W.maxD)) maxAF := orF_ok numsF_ok (bestF_ok hK maxL_py maxL_mem)
theorem minAF_ok (hK : C.K = X.K) : OkN C (rOr (rNums X.K fun n ns => ns.foldl min n) (rBest X.K W.minD)) minAF := orF_ok numsF_ok (bestF_ok hK minL_py minL_mem)
end
end Mi

/-! methods of lists: count. -/
namespace Mi
open PySem PySem.Spec PyProof.Rows L2 GxR
section
variable {X : Cx} {C : Cfg} {o c : Expr} {x : Ex} {es : List Expr} {xs : List Ex}
/-- what turns nothing over -/
def Calm (xs : List Ex) : Prop := ∀ e rs e', evs xs e = some (rs, e') → e' = e
/-- a method of a list with arguments -/
theorem ce_lstm (hK : C.K = X.K) {r : V → List V → Hp → VK → Prop} {f : List D → Option D} (ok : OkN C (fun vs H Q => ∃ v us, vs = v :: us ∧ r v us H Q) f) (hf : ∀ ds d, f ds = some d → ∃ s ds2, ds = .lst s :: ds2)
    (hq : Calm xs) (h : ∀ {te : TE} {t : TA}, PE X o te → PA X es t → PE X c (tBM X.K "list" r te t)) (ho : PE X o (tE C x)) (ha : PA X es (tA C xs)) : PE X c (tE C (.op f (x :: xs))) := (h ho ha).imp fun σ H Q q => by
  have q0 := q
  obtain ⟨F, G0, G, pn, e, rr, e', R, he, k⟩ := q
  obtain ⟨rs, ds, d, q1, q2, q3, rfl⟩ := ev_op he
  obtain ⟨r1, e1, rs2, h1, h2, rfl⟩ := evs_cons q1
  obtain ⟨d1, ds1, g1, g2, rfl⟩ := gets_cons q2
  obtain ⟨s, ds2, z⟩ := hf _ _ q3
  cases z
  have ee := hq _ _ _ h2
  subst ee
  refine ⟨F, G0, G, pn, e, r1, e', R, h1, fun v G1 H1 R1 s1 rv => ⟨?_, F, G0, G1, pn, e', rs2, e', R1, h2, fun us G2 H2 R2 s2 ru => ?_⟩⟩
  · have := R1.get rv g1
    cases this with
    | lst q rr => exact .inl ⟨rfl, _, .of q⟩
  · obtain ⟨v', us', e3, h3⟩ := ok (v :: us) (.lst s :: ds1) d G2 H2 Q R2.gh R2.tabs (.cons (R2.get (rv.mono s2) g1) (R2.gets ru g2)) q3 fun v G3 H3 g rw' => k v G3 H3 (R2.grow g) ((s1.trans s2).trans g.gg) rw'
    cases e3
    exact h3
theorem plain_ints : ∀ ns : List Int, PyData.plainAll (ns.map PyData.int) = true
  | [] => by simp [PyData.plainAll]
  | n :: ns => by simp [PyData.plainAll, PyData.plain, plain_ints ns]
theorem mt_lcount (hu : X.A.units + 100 < cLine) : MtR X "list.count" (fun x xs H Q => ∃ (a : Addr) (ns : List Int) (n : Int), x = .ref a ∧ SqL X.K H a (ns.map V.int) ∧ xs = [.int n] ∧ Q (.int (ns.count n : Nat)) H) := by
  intro pins s σ H x xs v us Q I r1 rs h
  obtain ⟨a, ns, n, rfl, hs, rfl, q⟩ := h
  cases r1
  cases rs with
  | cons r2 rs =>
    cases rs
    obtain ⟨t, rfl⟩ := r2
    obtain ⟨its, rv, hl, _⟩ := I.list hs
    obtain ⟨as, hr⟩ := Dp.readsAll I _ _ its (dp_ints ns) rv
    have hd := depth_ints ns
    refine SeqAt.count_list_data (d := .int n) hl.isList (by simpa using hr) (.int n t) ?_ (by simp [PyData.plain]) (by rw [hd]; simp; omega) ⟨.int _, H, I.kept fun _ _ e => e, ⟨_, rfl⟩, ?_⟩
    · exact plain_ints ns
    · have e : ((ns.map PyData.int).countP fun y => PyData.eqv y (.int n)) = ns.count n := by
        rw [List.countP_map, List.count]
        congr 1
      rw [e]
      exact q
def cntF : List D → Option D
  | [.lst l, .int n] => (intsOf l).map fun ns => .int (ns.count n : Nat)
  | _ => none
theorem cntF_lst : ∀ ds d, cntF ds = some d → ∃ s ds2, ds = .lst s :: ds2 := fun ds d h => by
  unfold cntF at h
  split at h
  · exact ⟨_, _, rfl⟩
  · cases h
theorem cntF_ok (hK : C.K = X.K) : OkN C (fun vs H Q => ∃ v us, vs = v :: us ∧ ∃ (a : Addr) (ns : List Int) (n : Int), v = .ref a ∧ SqL X.K H a (ns.map V.int) ∧ us = [.int n] ∧ Q (.int (ns.count n : Nat)) H) cntF := fun vs ds d G H Q s t r e k => by
  unfold cntF at e
  split at e
  · rename_i l n
    cases hm : intsOf l with
    | none => rw [hm] at e; cases e
    | some ns =>
      rw [hm] at e
      cases e
      obtain ⟨v, w, rfl, rv, rw'⟩ := repTs_two r
      cases rw'
      cases rv with
      | lst q rr =>
        rw [intsOf_map hm] at rr
        exact ⟨_, _, rfl, _, ns, n, rfl, .of (by rw [q, rr.ints]), rfl, res_flat s t k (.int _)⟩
  · cases e
theorem calm_var {i : Nat} : Calm [.var i] := fun e rs e' h => by
  obtain ⟨r1, e1, rs2, h1, h2, rfl⟩ := evs_cons h
  obtain ⟨rfl, rfl⟩ := evs_nil h2
  unfold ev at h1
  split at h1
  all_goals first | (cases h1; rfl) | cases h1
theorem calm_cst {d : D} : Calm [.cst d] := fun e rs e' h => by
  obtain ⟨r1, e1, rs2, h1, h2, rfl⟩ := evs_cons h
  obtain ⟨rfl, rfl⟩ := evs_nil h2
  unfold ev at h1
  cases h1
  rfl
end
end Mi

/-! t[::-1] for tuples, lists and texts. -/
namespace Mi
open PySem PySem.Spec PyProof.Rows L2 GxR HT
section
variable {prog : Program} {w : World} {A : Around} {E : Value → Shared → Prop} {s : Shared}
theorem adjust_rev (n : Nat) : Builtin.Slice.sliceAdjust none none (-1) (n : Int) = ((n : Int) - 1, -1) := by
  unfold Builtin.Slice.sliceAdjust
  simp
theorem places_rev (n : Nat) : Builtin.Slice.slicePlaces ((n : Int) - 1) (-1) (-1) = n := by
  unfold Builtin.Slice.slicePlaces
  rw [if_neg (by decide)]
  split
  · have e : (((n : Int) - 1) - -1 - 1) / (- -1) + 1 = (n : Int) := by
      rw [show (- -1 : Int) = 1 by decide, Int.ediv_one]
      omega
    rw [e]; rfl
  · omega
theorem pick_rev (xs : Array Value) : ((List.range xs.size).filterMap fun (m : Nat) => xs[(((xs.size : Int) - 1) + (m : Int) * -1).toNat]?).toArray = xs.toList.reverse.toArray := by
  congr 1
  rw [← W.krv_all xs, ← List.filterMap_reverse, ← W.krv_range, List.filterMap_map]
  have z : ∀ l : List Nat, (∀ m ∈ l, m < xs.size) → l.filterMap (fun (m : Nat) => xs[(((xs.size : Int) - 1) + (m : Int) * -1).toNat]?) = l.filterMap ((fun x => xs[x]?) ∘ fun k => xs.size - 1 - k) := fun l => by
    induction l with
    | nil => intro _; rfl
    | cons m l ih =>
      intro h
      have hm := h m List.mem_cons_self
      have e : (((xs.size : Int) - 1) + (m : Int) * -1).toNat = xs.size - 1 - m := by omega
      rw [List.filterMap_cons, List.filterMap_cons, ih fun q hq => h q (List.mem_cons_of_mem _ hq), e]
      rfl
  exact z _ fun m hm => List.mem_range.mp hm
theorem sliceApplied_rev {sl : Addr} {vs : Value} {n : Nat} {Q : Int × Int × Nat → Shared → Prop} (hs : s.heap.IsSliceOf sl .none .none vs) (ps : IsPart vs (some (-1)))
    (h : Q ((n : Int) - 1, -1, n) s) : wpAny (model prog w) A (Builtin.Slice.sliceApplied (.ref sl) (pure (n : Int))) Q E s := by
  obtain ⟨os, hos, hcs, hds⟩ := id hs
  unfold Builtin.Slice.sliceApplied Builtin.Slice.sliceFields
  refine wpAny_bind (wpAny_bind (wpAny_field hos hds (x := .none) rfl (wpAny_bind (wpAny_field hos hds (x := .none) rfl (wpAny_bind (wpAny_field hos hds (x := vs) rfl (wpAny_pure ?_)))))))
  refine wpAny_bind (slicePart_ ps ?_)
  show wpAny _ _ (if ((-1 : Int) == 0) = true then _ else _) _ _ s
  rw [if_neg (by decide)]
  refine wpAny_bind (slicePart_none (wpAny_bind (slicePart_none (wpAny_bind (wpAny_pure ?_)))))
  show wpAny _ _ (match Builtin.Slice.sliceAdjust none none (-1) (n : Int) with | (lo, hi) => pure (lo, (-1 : Int), Builtin.Slice.slicePlaces lo hi (-1))) _ _ s
  rw [adjust_rev n]
  show wpAny _ _ (pure ((n : Int) - 1, (-1 : Int), Builtin.Slice.slicePlaces ((n : Int) - 1) (-1) (-1))) _ _ s
  rw [places_rev]
  exact wpAny_pure h
theorem getItem_tuple_rev {t sl : Addr} {items : Array Value} {vs : Value} {Q : Value → Shared → Prop} (ht : IsTup s.heap t items) (hs : s.heap.IsSliceOf sl .none .none vs) (ps : IsPart vs (some (-1)))
    (h : Q (.ref s.heap.objs.size) { s with heap := s.heap.push { cls := .type "tuple", data := .seq items.toList.reverse.toArray } })
    (hsz : items.size ≤ sizeLine) : wpAny (model prog w) A (getItem (.ref t) (.ref sl)) Q E s := by
  have htake : sizeOk (.seq items.toList.reverse.toArray) := by
    show items.toList.reverse.toArray.size ≤ sizeLine
    rw [List.size_toArray, List.length_reverse, Array.length_toList]
    omega
  obtain ⟨os, hos, hcs, hds⟩ := id hs
  have hTs : s.TypeIs (.ref sl) "slice" := ⟨os, hos, hcs⟩
  unfold getItem
  try with_reducible refine wpAny_holding ?_
  first | refine wpAny_bind (wpAny_pure ?_) | skip
  refine wpAny_bind (wpAny_sequenceKey ht.typeIs (by decide) ?_)
  refine wpAny_bind (wpAny_callSpecial?_slot (name := Str.ofString "__getitem__") ht.typeIs PyProof.Rows.slot_tuple_getitem
    (wpAny_call_entry PyProof.Rows.slot_tuple_getitem ht.typeIs entry_tuple_getitem ?_ (args_tuple_getitem _ _)))
  show wpAny _ _ (Builtin.Tuple.tupleItemsOf (.ref t) >>= _) _ _ s
  refine wpAny_bind (tupleItemsOf_ ht ?_)
  refine wpAny_bind (wpAny_typeOf hTs ?_)
  rw [if_pos (by decide)]
  refine wpAny_bind (sliceApplied_rev hs ps ?_)
  show wpAny _ _ (if ((items.size : Int) - 1 == 0 && (-1 : Int) == 1 && (items.size) == items.size) = true then _ else _) _ _ s
  rw [if_neg (by simp), pick_rev]
  first
    | exact wpAny_bind (m := Builtin.Tuple.tupleExact _) (wpAny_newObj_type (wpAny_pure ⟨_, rfl, wpAny_pure h⟩) htake)
    | exact wpAny_bind (m := Builtin.Tuple.tupleExact _) (wpAny_newObj_type (wpAny_bind (wpAny_pure (wpAny_pure ⟨_, rfl, wpAny_pure h⟩))) htake)
    | exact wpAny_bind (wpAny_bind (m := Builtin.Tuple.tupleExact _) (wpAny_newObj_type (wpAny_pure (wpAny_pure ⟨_, rfl, wpAny_pure h⟩)) htake))
    | exact wpAny_bind (wpAny_bind (m := Builtin.Tuple.tupleExact _) (wpAny_newObj_type (wpAny_pure ⟨_, rfl, wpAny_pure h⟩) htake))
end
section
variable {X : Cx} {C : Cfg} {e : Expr} {te : TE} {x : Ex} {p1 p2 p3 pos : Pos} {k : Nat}
/-- the items backwards -/
def tRevT (K : Frag) (te : TE) : TE := fun σ H Q => te σ H fun x H1 => ∃ a xs, x = .ref a ∧ SqT K H1 a xs ∧ ∀ p, H1 p = none → Q (.ref p) (upd H1 p (.tup xs.reverse))
theorem pe_revT (he : PE X e te) : PE X (.Subscript e (.Slice none none (some (.UnaryOp .USub (.Constant (.int 1) k p1) p2)) p3) pos) (tRevT X.K te) := by
  refine ⟨fun pins s σ H Q I h => ?_⟩
  refine Subscript_ (thn (he.run pins s σ H _ I h) fun v s1 ⟨x, H1, I1, r1, q1⟩ => ?_)
  obtain ⟨a, xs, ex, hx, q⟩ := q1
  subst ex
  cases r1
  have hst : PO X (some (.UnaryOp .USub (.Constant (.int 1) k p1) p2)) (tPart (tUn (rU fun i => .int (-i)) (tC (.int 1)))) := po_some (pe_un un_neg pe_int)
  refine wpAny_Slice (thn (po_none.run pins s1 σ H1 (fun o H2 => o = none ∧ H2 = H1) I1 ⟨rfl, rfl⟩) fun vl s2 ⟨l, H2, I2, pl, el, e2⟩ => ?_)
  subst el e2
  refine thn (po_none.run pins s2 σ H2 (fun o H3 => o = none ∧ H3 = H2) I2 ⟨rfl, rfl⟩) fun vu s3 ⟨u, H3, I3, pu, eu, e3⟩ => ?_
  subst eu e3
  refine thn (hst.run pins s3 σ H3 (fun o H4 => o = some (-1) ∧ H4 = H3) I3 ⟨1, rfl, -1, rfl, rfl, rfl⟩) fun vs s4 ⟨o, H4, I4, ps, eo, e4⟩ => ?_
  subst eo e4
  cases pl
  cases pu
  have I5 : Inv X pins σ H4 { s4 with heap := s4.heap.push { cls := .type "slice", data := .fields #[.none, .none, vs] } } := I4.kept (t' := s4.toks) fun b ob q => Heap.get?_push_of_some _ q
  obtain ⟨its, r, ht, hz⟩ := I5.tuple hx
  have hlen := r.length
  show wpAny (model X.prog X.w) X.A (subscriptTail e (.Slice none none (some (.UnaryOp .USub (.Constant (.int 1) k p1) p2)) p3) (.ref a) (.ref s4.heap.objs.size)) (EP X pins σ Q) X.xe { s4 with heap := s4.heap.push { cls := .type "slice", data := .fields #[.none, .none, vs] } }
  refine tail_any (ops := [.ref a, .ref s4.heap.objs.size]) ht.typeIs (PyProof.Rows.slot_tuple_getitem.lookup) ?_ (by with_unfolding_all rfl)
  refine getItem_tuple_rev ht (Heap.IsSliceOf.new _ .none .none vs) ps ?_ (by rw [List.size_toArray]; omega)
  refine ⟨.ref _, _, I5.laid (t' := s4.toks) (o := .tup xs.reverse) (fun b ob q => Heap.get?_push_of_some _ q) (Nat.le_refl _) ?_, rfl, q _ (I5.hok.fresh (Nat.le_refl _))⟩
  exact ⟨by rw [List.length_reverse]; exact hz, _, r.reverse, IsTup.new _ _⟩
def revF : List D → Option D
  | [.tup l] => some (.tup l.reverse)
  | _ => none
theorem ce_rev (hK : C.K = X.K) (he : PE X e (tE C x)) : PE X (.Subscript e (.Slice none none (some (.UnaryOp .USub (.Constant (.int 1) k p1) p2)) p3) pos) (tE C (.op revF [x])) := (pe_revT he).imp fun σ H Q q => by
  obtain ⟨F, G0, G, pn, e, r, e', R, he, k⟩ := q
  obtain ⟨rs, ds, d, q1, q2, q3, rfl⟩ := ev_op he
  obtain ⟨r1, e1, rs2, h1, h2, rfl⟩ := evs_cons q1
  obtain ⟨rfl, rfl⟩ := evs_nil h2
  obtain ⟨d1, ds1, g1, g2, rfl⟩ := gets_cons q2
  cases gets_nil g2
  refine ⟨F, G0, G, pn, e, r1, _, R, h1, fun v G1 H1 R1 s1 rv => ?_⟩
  unfold revF at q3
  split at q3
  · rename_i l hq
    cases hq
    cases q3
    have := R1.get rv g1
    cases this with
    | tup g q rr =>
      refine ⟨_, _, rfl, by rw [← hK]; exact SqT.of q, fun p hp => ?_⟩
      have gp := R1.gh.free hp
      refine k (.ref p) (upd G1 p (.tup _)) (upd H1 p (.tup _)) (R1.grow (grow_new R1.gh R1.tabs hp)) (s1.trans (grow_new R1.gh R1.tabs hp).gg) (.tup upd_same ?_)
      exact RepL.mono (fun b u hb => by rw [upd_ne (ne_of_none hb gp)]; exact hb) _ _ rr.reverse
  · cases q3
end
end Mi

/-! Generator expressions, walked by all, any, sum: the element calls what it will. -/
namespace Mi
open PySem PySem.Spec PyProof.Rows L2 GxR GenW
/-- the context of a generator expression's own frame -/
abbrev gnX (X : Cx) (A : Around) (s : Shared) (H : Hp) (N : List Str) (genv : Env) (fp : List Addr) : Cx :=
  { X with A := A.deeper genv, N := N, s_0 := s, H_0 := H, env := genv, outer := X.stack, stack := genv :: X.stack, ex := fp, fn := fun _ => false, calm := true, pn := [], xe := fun _ _ => False }
/-- the names of a generator expression -/
structure GnOk (N : List Str) (sc scope : Scope) : Prop where
  kind : scope.kind = .function
  co : scope.isCoroutine = false
  cell : ∀ y ∈ scope.names, y.2 ≠ .cell
  dot : scope.names.lookup (".0" : Str) = some NameKind.local
  uniq : ∀ y ∈ scope.names, scope.names.lookup y.1 = some y.2
  free : ∀ y ∈ scope.names, y.2 = .free → sc.names.lookup y.1 = some .cell ∨ sc.names.lookup y.1 = some .free
/-- what the generator's frame knows at first -/
def GnSt (N : List Str) (scope : Scope) (N0 : List Str) (σ σ0 : L2.St) : Prop := σ0.length = N.length ∧ ∀ (i : Nat) (x : Str) (v : V), N[i]? = some x → σ0[i]? = some (some v) → scope.names.lookup x = some .free ∧ ∃ j : Nat, N0[j]? = some x ∧ σ[j]? = some (some v)
section
variable {X : Cx} {pins : List (Addr × Obj)} {σ σ0 : L2.St} {H : Hp} {s s6 : Shared} {N : List Str} {scope : Scope} {fp : List Addr} {A : Around} {code : Value}
theorem Inv_gens {X : Cx} {pins : List (Addr × Obj)} {σ : L2.St} {H : Hp} {s s' : Shared} (I : Inv X pins σ H s) (ho : s'.os = s.os) (hh : s'.heap = s.heap) (hb : AllBare s'.gens) : Inv X pins σ H s' :=
  ⟨I.ok, ho.trans I.os, hb, by rw [hh]; exact I.base, by rw [hh]; exact I.loc, by rw [hh]; exact I.cell, I.free, I.freeC, by rw [hh]; exact I.pin, by rw [hh]; exact I.hok, I.len⟩
/-- the generator's frame has just been made -/
theorem gn_start (I : Inv X pins σ H s) (S : GnOk N X.env.scope scope) (hst : GnSt N scope X.N σ σ0) (hfp : ∀ b ∈ fp, FpOk X pins H b ∧ b < s.heap.objs.size) (hh : A.handled = none) (hfr : A.frames = some X.stack)
    {a : Addr} {go : Obj} (ha : s.heap.objs.size < a) (hgd : ∀ v, go.data ≠ .cell v) {m : Str → Option Value} (hn : s6.heap.Ns s.heap.objs.size m)
    (kp : ∀ b o, s.heap.get? b = some o → s6.heap.get? b = some o) (hgo : s6.heap.get? a = some go) (ho : s6.os = s.os) (hb : AllBare s6.gens) {pS : List (Addr × Obj)}
    (hpS : ∀ p ∈ pS, s6.heap.get? p.1 = some p.2 ∧ s.heap.objs.size < p.1 ∧ ∀ v, p.2.data ≠ .cell v) :
    Inv (gnX X A s H N (genEnv scope (cloFrom X.env.cells scope.names []) s.heap.objs.size code builtinsNs X.env) fp) ((a, go) :: pS) σ0 H s6 := by
  have hfree : ∀ y ∈ scope.names, y.2 = .free → ∃ c, X.env.cells.lookup y.1 = some c := fun y hy e => by
    rcases S.free y hy e with k | k
    · exact I.ok.has _ (.inl k)
    · exact I.ok.has _ (.inr k)
  have cm : ∀ {y c}, (y, c) ∈ cloFrom X.env.cells scope.names [] → X.env.cells.lookup y = some c ∧ c < s.heap.objs.size := fun {y c} hm => by
    rcases cloFrom_mem hm with hm | ⟨h1, rfl⟩
    · cases hm
    · obtain ⟨c, hc⟩ := hfree _ h1 rfl
      rw [hc]
      obtain ⟨w, z⟩ := I.cell _ _ hc
      exact ⟨rfl, z.lt⟩
  have look : ∀ {y}, scope.names.lookup y = some .free → ∃ c, (cloFrom X.env.cells scope.names []).lookup y = some c ∧ X.env.cells.lookup y = some c := fun {y} hl => by
    have hy : (y, NameKind.free) ∈ scope.names := PySem.mem_of_lookup hl
    obtain ⟨c', e'⟩ := mem_lookup (cloFrom_has (cells := X.env.cells) (acc := []) hy)
    exact ⟨c', e', (cm (PySem.mem_of_lookup e')).1⟩
  have young : ∀ b, s.heap.objs.size < b → H b = none ∧ b ∉ frs X.stack := fun b hb => ⟨I.hok.fresh (Nat.le_of_lt hb), fun z => by
    rcases List.mem_cons.mp (I.stkSub b z) with e | e
    · have := I.lt
      rw [← e] at this
      exact absurd (Nat.lt_trans this hb) (Nat.lt_irrefl _)
    · exact I.nofs (Nat.le_of_lt hb) e⟩
  refine ⟨⟨I.ok.mod, S.kind, I.ok.glob, rfl, Nat.le_refl _, fun y z c e1 e2 => I.ok.inj y z c (cm (PySem.mem_of_lookup e1)).1 (cm (PySem.mem_of_lookup e2)).1, fun y hy => ?_, fun y c z _ => (by cases z), fun _ => hh, Around.frames_deeper hfr, .inr ⟨rfl, rfl⟩,
      fun b hb => ⟨Nat.ne_of_lt (hfp b hb).2, fun y c e => (hfp b hb).1.2.2.2.2.1 y c (cm (PySem.mem_of_lookup e)).1⟩, I.bs, Nat.le_trans I.ok.bsz I.sz, fun b o e hb => ?_, fun b hb z => ?_, I.stack, I.stkFree⟩,
    ho, hb, Un.kept kp, ⟨m, hn, fun i x v h1 h2 h3 => ?_⟩, fun y c e => ?_, I.hok.fresh (Nat.le_refl _), fun y c e => I.freeC y c (cm (PySem.mem_of_lookup e)).1, fun p hp => ?_, I.hok.kept kp, hst.1⟩
  · have hy : scope.names.lookup y = some .cell ∨ scope.names.lookup y = some .free := hy
    rcases hy with hy | hy
    · exact absurd rfl (S.cell _ (PySem.mem_of_lookup hy))
    · obtain ⟨c, h1, _⟩ := look hy
      exact ⟨c, h1⟩
  · rcases (hfp b hb).1.2.2.2.1 with z | z
    · exact I.ok.noex b o e z
    · exact absurd (Nat.lt_of_lt_of_le (Heap.lt_size e) (Nat.le_trans I.ok.bsz z)) (Nat.lt_irrefl _)
  · rcases List.mem_cons.mp (I.stkSub b z) with e | e
    · exact (hfp b hb).1.2.1 e
    · exact (hfp b hb).1.2.2.1 e
  · obtain ⟨hl, j, e1, e2⟩ := hst.2 i x v h1 h2
    obtain ⟨c, c1, c2⟩ := look hl
    obtain ⟨mX, _, hX⟩ := I.loc
    have hy : (x, NameKind.free) ∈ scope.names := PySem.mem_of_lookup hl
    have hv : X.env.kindOf x = some .cell ∨ X.env.kindOf x = some .free := S.free _ hy rfl
    have hvis : Vis X.env.scope x := .inr hv
    obtain ⟨u, ru, l⟩ := hX j x v e1 e2 hvis
    refine ⟨u, ru, .inr ⟨.inr hl, c, c1, ?_⟩⟩
    rcases l with ⟨hk, _⟩ | ⟨_, c', hc', z⟩
    · rcases hv with q | q <;> (rw [hk] at q; cases q)
    · rw [c2] at hc'
      cases hc'
      obtain ⟨o, h1, h2⟩ := z
      exact ⟨o, kp _ o h1, h2⟩
  · obtain ⟨v, o, h1, h2⟩ := I.cell y c (cm (PySem.mem_of_lookup e)).1
    exact ⟨v, o, kp _ o h1, h2⟩
  · rcases List.mem_cons.mp hp with z | z
    · rw [z]
      exact ⟨hgo, (young a ha).1, Nat.ne_of_gt ha, (young a ha).2, hgd⟩
    · obtain ⟨q1, q2, q3⟩ := hpS p z
      exact ⟨q1, (young p.1 q2).1, Nat.ne_of_gt q2, (young p.1 q2).2, q3⟩
end
theorem over_comp {A : Around} {elt : Expr} {gens : List Comprehension} {scope : Scope} {pos : Pos} {it acc : Value} {env : Env} : A.over (.compLoop (.GeneratorExp elt gens scope pos) 0 it acc env) [] = A.deeper env := by
  first
    | rfl
    | (obtain ⟨hd, d, fr, gs, u⟩ := A; simp [Around.over, Around.deeper, marksOver, frameCount, unitsOf, envsOf, guardsOf, pushEnvs, pushGuards, Code.envs, Code.env?, Code.isFrame, Code.guards, Code.isGuard, Code.weight, Code.frames, Code.isCreation, Code.isCaller, Code.cUnits])
theorem over_compS {A : Around} {elt : Expr} {gens : List Comprehension} {scope : Scope} {pos : Pos} {it acc : Value} {env : Env} : A.over (.compStart (.GeneratorExp elt gens scope pos) 0 it acc env) [] = A.deeper env := by
  first
    | rfl
    | (obtain ⟨hd, d, fr, gs, u⟩ := A; simp [Around.over, Around.deeper, marksOver, frameCount, unitsOf, envsOf, guardsOf, pushEnvs, pushGuards, Code.envs, Code.env?, Code.isFrame, Code.guards, Code.isGuard, Code.weight, Code.frames, Code.isCreation, Code.isCaller, Code.cUnits])
/-- what is told at each item that is handed out; W: where the walk stands -/
def GnTurn (J : It) (W : Nat → Nat → Hp → Prop) (Fin : Hp → Prop) (Yl : Nat → Nat → V → Hp → Prop) (g : TG) (tt : TT) (te : TE) (vs : List Nat) (σ0 : L2.St) : Prop :=
  ∀ i m H, W i m H → (J.stop i H ∧ Fin H) ∨ (J.go i H ∧ ∀ x H', J.yld i H x H' → g x σ0 H' fun σ2 H2 => wipe σ2 vs = σ0 ∧ tt σ2 H2 fun b H3 => if b = true then te σ2 H3 fun y H4 => Yl i m y H4 else ∃ m', m' < m ∧ W (i + 1) m' H3)
/-- the protocol -/
def GnY (X' : Cx) (a : Addr) (go : Obj) (SL : List Addr) (fp : List Addr) (σ0 : L2.St) (W : Nat → Nat → Hp → Prop) (Yl : Nat → Nat → V → Hp → Prop) : Protocol := fun n s₀ v s kap =>
  ∃ i m y pS H, pS.map (·.1) = SL ∧ RelV y v ∧ Inv X' ((a, go) :: pS) σ0 H s ∧ Yl i m y H ∧
    ∀ pS' s' m', pS'.map (·.1) = SL → Inv X' ((a, go) :: pS') σ0 H s' → (∀ b ∈ fp, ∀ o, s.heap.get? b = some o → s'.heap.get? b = some o) → m' < m → W (i + 1) m' H → kap (.send .none) s'
/-- the end -/
def GnF (X' : Cx) (a : Addr) (go : Obj) (SL : List Addr) (σ0 : L2.St) (Fin : Hp → Prop) : Nat → Shared → Shared → Prop := fun n s₀ s => ∃ pS H, pS.map (·.1) = SL ∧ Inv X' ((a, go) :: pS) σ0 H s ∧ Fin H
def GnR (X' : Cx) (a : Addr) (go : Obj) (SL : List Addr) (σ0 : L2.St) (Fin : Hp → Prop) : GenEnd := fun n s₀ r s₁ => ((r = .ok (.ret .none) ∨ r = .ok .next) ∧ GnF X' a go SL σ0 Fin n s₀ s₁) ∨ ∃ e, r = .error e ∧ False
section
variable {X' : Cx} {A : Around} {a : Addr} {go : Obj} {SL fp : List Addr} {σ0 : L2.St} {W : Nat → Nat → Hp → Prop} {Yl : Nat → Nat → V → Hp → Prop} {Fin : Hp → Prop} {J : It} {it : Addr} {tn : Nat → Heap → Prop} {tgx iter elt : Expr} {ifs : List Expr} {scope : Scope} {pos : Pos} {g : TG} {tt : TT} {te : TE} {vs : List Nat}
theorem gn_stat {pl : List (Addr × Obj)} (hfp : ∀ b ∈ fp, b ∈ X'.ex) (hpl : ∀ p ∈ pl, p.1 ∉ fp) (hpn : X'.pn = []) {σ : L2.St} {H : Hp} {s : Shared} {pins : List (Addr × Obj)} (I : Inv X' pins σ H s) (hn : ∀ b ∈ fp, H b = none) : ∀ b ∈ fp, FpOk X' pl H b := fun b hb =>
  ⟨hn b hb, (I.ok.exf b (hfp b hb)).1, I.ok.exfs b (hfp b hb), .inl (hfp b hb), fun x c e => (I.ok.exf b (hfp b hb)).2 x c e, fun p hp z => by
    rw [hpn, List.nil_append] at hp
    exact hpl p hp (by rw [z]; exact hb)⟩
/-- the generator's loop -/
theorem gn_loop (hA : X'.A = A.deeper X'.env) (hc : X'.calm = true) (hx : X'.xe = fun _ _ => False) (hpn : X'.pn = []) (hco : X'.env.scope.isCoroutine = false) (hfp : ∀ b ∈ fp, b ∈ X'.ex) (haf : a ∉ fp) (hSf : ∀ b ∈ SL, b ∉ fp)
    (T : Turn X'.prog X'.w X'.K tgx J fp it tn) (pg : PG X' tgx g) (pt : PTs X' ifs tt) (pe : PE X' elt te) (hvs : wipe σ0 vs = σ0) (turn : GnTurn J W Fin Yl g tt te vs σ0) :
    ∀ (m i : Nat) (pS : List (Addr × Obj)) (H : Hp) (s₀ s : Shared) (n : Nat), m < n → pS.map (·.1) = SL → Inv X' ((a, go) :: pS) σ0 H s → tn i s.heap → (∀ b ∈ fp, H b = none) → W i m H →
      Seg (model X'.prog X'.w) A (GnR X' a go SL σ0 Fin) (GnY X' a go SL fp σ0 W Yl) n s₀ (.compLoop (.GeneratorExp elt [⟨tgx, iter, ifs, 0⟩] scope pos) 0 (.ref it) .none X'.env)
        ((model X'.prog X'.w).den (.compLoop (.GeneratorExp elt [⟨tgx, iter, ifs, 0⟩] scope pos) 0 (.ref it) .none X'.env)) [] s := by
  have ov : A.over (.compLoop (.GeneratorExp elt [⟨tgx, iter, ifs, 0⟩] scope pos) 0 (.ref it) .none X'.env) [] = X'.A := by rw [over_comp, hA]
  intro m
  induction m using Nat.strongRecOn with
  | ind m ih =>
    intro i pS H s₀ s n hmn hS I st hn hw
    have hpl : ∀ p ∈ (a, go) :: pS, p.1 ∉ fp := fun p hp => by
      rcases List.mem_cons.mp hp with z | z
      · rw [z]; exact haf
      · exact hSf p.1 (by rw [← hS]; exact List.mem_map_of_mem z)
    show Seg _ A _ _ _ s₀ _ ((compTurn (.GeneratorExp elt [⟨tgx, iter, ifs, 0⟩] scope pos) 0 (.ref it) .none X'.env).onRaise (leaving X'.env)) [] s
    rw [compTurn_gen, Sem.onRaise_eq_wrap]
    refine seg_bind_wrap (wpAny_standAt ?_)
    rcases turn i m H hw with ⟨stop, fin⟩ | ⟨go', step⟩
    · have td := T.done X' rfl rfl rfl hc i _ s _ H (fun _ _ => False) I (gn_stat hfp hpl hpn I hn) st stop
      refine seg_bind_wrap ?_
      rw [ov]
      refine thnF td fun r s6 ⟨hr, I6⟩ => ?_
      subst hr
      exact seg_end (.ok .next) (.inl ⟨.inr rfl, pS, H, hS, I6, fin⟩)
    · have ti := T.item X' rfl rfl rfl hc i _ s _ H (fun _ _ => False) I (gn_stat hfp hpl hpn I hn) st go'
      refine seg_bind_wrap ?_
      rw [ov]
      refine thnF ti fun r s6 ⟨u, hr, h6⟩ => ?_
      subst hr
      refine seg_bind_wrap ?_
      rw [ov]
      refine thnF h6 fun _ s7 ⟨x, H7, I7, r7, y7, st7, n7⟩ => ?_
      have I7' := I7.pinned (gn_stat hfp hpl hpn I7 n7) (T.obj _ _ st7)
      refine seg_bind_wrap ?_
      rw [ov]
      have pgr := pg.run _ s7 _ H7 x u _ I7' r7 (step x H7 y7)
      rw [hx] at pgr
      refine thnF pgr fun _ s8 ⟨σ8, H8, I8, hw8, q8⟩ => ?_
      refine seg_bind_wrap ?_
      rw [ov]
      have ptr := pt.run _ s8 σ8 H8 _ I8 q8
      rw [hx] at ptr
      refine thnF ptr fun b s9 ⟨H9, I9, q9⟩ => ?_
      have pin' : ∀ {s' : Shared} {H' : Hp} {σ' : L2.St}, Inv X' (((a, go) :: pS) ++ pinsAt fp s7.heap) σ' H' s' → ∀ b ∈ fp, ∀ o, s7.heap.get? b = some o → s'.heap.get? b = some o ∧ H' b = none := fun {s' H' σ'} I' b hb o e =>
        let z := I'.pin (b, o) (List.mem_append_right _ (List.mem_append_right _ (mem_pinsAt hb e)))
        ⟨z.1, z.2.1⟩
      have back : ∀ {s' : Shared} {H' : Hp}, Inv X' (((a, go) :: pS) ++ pinsAt fp s7.heap) σ8 H' s' → Inv X' ((a, go) :: pS) σ0 H' s' ∧ tn (i + 1) s'.heap ∧ ∀ b ∈ fp, H' b = none := fun {s' H'} I' => by
        have hl : σ0.length = σ8.length := by rw [← hw8, wipe_length]
        refine ⟨(I'.unpinned (pins := (a, go) :: pS)).weak hl (fun j v e => ?_), T.keep _ _ _ st7 fun b hb o e => (pin' I' b hb o e).1, fun b hb => ?_⟩
        · rw [← hw8] at e
          exact (wipe_some e).1
        · obtain ⟨o, e, _⟩ := T.obj _ _ st7 b hb
          exact (pin' I' b hb o e).2
      cases b with
      | false =>
        simp only [Bool.false_eq_true, if_false] at q9 ⊢
        obtain ⟨m', hm, w'⟩ := q9
        obtain ⟨b1, b2, b3⟩ := back I9
        exact seg_again rfl (ih m' hm (i + 1) pS H9 s₀ s9 n (by omega) hS b1 b2 b3 w')
      | true =>
        simp only [if_true] at q9 ⊢
        have hy : ∀ v, yieldOut X'.env v = yieldValue v := fun v => by simp only [yieldOut, hco, Bool.false_eq_true, if_false]
        simp only [hy]
        rw [Sem.bind_eq_wrap', Sem.bind_eq_wrap', Sem.wrap_wrap, Sem.wrap_wrap]
        refine seg_wrap ?_
        rw [ov]
        have per := pe.run _ s9 σ8 H9 _ I9 q9
        rw [hx] at per
        refine thnF per fun z s10 ⟨y, H10, I10, r10, q10⟩ => ?_
        obtain ⟨n', rfl⟩ : ∃ n', n = n' + 1 := ⟨n - 1, by omega⟩
        obtain ⟨b1, b2, b3⟩ := back I10
        refine seg_at (seg_yield rfl rfl rfl ⟨i, m, y, pS, H10, hS, r10, b1, q10, fun pS' s' m' hS' I' kp hm w' => ?_⟩)
        exact seg_again rfl (ih m' hm (i + 1) pS' H10 s' s' n' (by omega) hS' I' (T.keep _ _ _ b2 kp) b3 w')
theorem gn_seg (hA : X'.A = A.deeper X'.env) (hc : X'.calm = true) (hx : X'.xe = fun _ _ => False) (hpn : X'.pn = []) (hco : X'.env.scope.isCoroutine = false) (hfp : ∀ b ∈ fp, b ∈ X'.ex) (haf : a ∉ fp) (hSf : ∀ b ∈ SL, b ∉ fp)
    (T : Turn X'.prog X'.w X'.K tgx J fp it tn) (pg : PG X' tgx g) (pt : PTs X' ifs tt) (pe : PE X' elt te) (hvs : wipe σ0 vs = σ0) (turn : GnTurn J W Fin Yl g tt te vs σ0)
    {m n : Nat} {pS : List (Addr × Obj)} {H : Hp} {s₀ s : Shared} (hmn : m < n) (hS : pS.map (·.1) = SL) (I : Inv X' ((a, go) :: pS) σ0 H s) (st : tn 0 s.heap) (hn : ∀ b ∈ fp, H b = none) (hw : W 0 m H) :
    Seg (model X'.prog X'.w) A (GnR X' a go SL σ0 Fin) (GnY X' a go SL fp σ0 W Yl) n s₀ (.compStart (.GeneratorExp elt [⟨tgx, iter, ifs, 0⟩] scope pos) 0 (.ref it) .none X'.env)
        ((model X'.prog X'.w).den (.compStart (.GeneratorExp elt [⟨tgx, iter, ifs, 0⟩] scope pos) 0 (.ref it) .none X'.env)) [] s := by
  have loop := gn_loop (iter := iter) (scope := scope) (pos := pos) hA hc hx hpn hco hfp haf hSf T pg pt pe hvs turn m 0 pS H s₀ s n hmn hS I st hn hw
  show Seg _ A _ _ _ s₀ _ ((compStart (.GeneratorExp elt [⟨tgx, iter, ifs, 0⟩] scope pos) 0 (.ref it) .none X'.env).onRaise (leaving X'.env)) [] s
  unfold compStart
  rw [Sem.onRaise_eq_wrap]
  show Seg _ A _ _ _ s₀ _ ((ask >>= _).wrap _ _ _ _) [] s
  refine seg_bind_wrap (wpAny_askSetting ?_)
  split
  · exact seg_again rfl loop
  · first
      | exact seg_bind_wrap (wpAny_rule (seg_bind_wrap (wpAny_standAt (seg_bind_wrap (T.self _ 0 s _ _ st (seg_again rfl loop))))))
      | (refine seg_bind_wrap (wpAny_rule ?_); show Seg _ A _ _ _ s₀ _ ((standAt iter.pos >>= _).wrap _ _ _ _) [] s; exact seg_bind_wrap (wpAny_standAt (seg_bind_wrap (T.self _ 0 s _ _ st (seg_again rfl loop)))))
end
end Mi

/-! Generator expressions: made, walked. -/
namespace Mi
open PySem PySem.Spec PyProof.Rows L2 GxR GenW
section
variable {X : Cx} {pins : List (Addr × Obj)} {σ σ0 : L2.St} {H : Hp} {s : Shared} {N : List Str} {scope : Scope} {tgx iter elt : Expr} {ifs : List Expr}
/-- the generator has been made: H4, s4: ahead of its frame -/
def GnMade (X : Cx) (pins : List (Addr × Obj)) (σ : L2.St) (scope : Scope) (tgx elt iter : Expr) (ifs : List Expr) (gpos : Pos) (J : It) (H4 : Hp) (a : Addr) (s5 : Shared) : Prop :=
  ∃ (it : Addr) (fp : List Addr) (tn : Nat → Heap → Prop) (code : Value) (s4 : Shared) (go : Obj) (g : Nat) (m : Str → Option Value), Inv X pins σ H4 s4 ∧ Turn X.prog X.w X.K tgx J fp it tn ∧ tn 0 s5.heap ∧ (∀ b ∈ fp, FpOk X pins H4 b ∧ b < s4.heap.objs.size) ∧
    s4.heap.objs.size < a ∧ a < s5.heap.objs.size ∧ s5.heap.Ns s4.heap.objs.size m ∧ (∀ b o, s4.heap.get? b = some o → s5.heap.get? b = some o) ∧ s5.heap.get? a = some go ∧ (∀ v, go.data ≠ .cell v) ∧ (∀ h : Heap, h.get? a = some go → h.IsGen a g) ∧
    s5.gens[g]? = some (.fresh (.compStart (.GeneratorExp elt [⟨tgx, iter, ifs, 0⟩] scope gpos) 0 (.ref it) .none (genEnv scope (cloFrom X.env.cells scope.names []) s4.heap.objs.size code builtinsNs X.env))) ∧ AllBare s5.gens ∧ s5.os = s4.os
theorem gn_eval {c P : Addr} {gpos : Pos} {wi : TI} {k : Nat} {Q' : Value → Shared → Prop} {R : It → Hp → Prop}
    (hr : Room k X.A) (TB : TabB X.base X.mg c P) (hcode : X.env.code = .ref c) (S : GnOk N X.env.scope scope) (hi : PI X tgx iter wi)
    (hs : ∀ v, genFold iter X.env v = pure v) (I : Inv X pins σ H s) (h : wi σ H fun J H1 => TabG H1 P ∧ ∀ H4, Tabbed P H1 H4 → R J H4)
    (hQ : ∀ J H4 a s5, R J H4 → GnMade X pins σ scope tgx elt iter ifs gpos J H4 a s5 → Q' (.ref a) s5) :
    wpAny (model X.prog X.w) X.A (eval (.GeneratorExp elt [⟨tgx, iter, ifs, 0⟩] scope gpos) X.env) Q' X.xe s := by
  have hfree : ∀ y ∈ scope.names, y.2 = .free → ∃ c, X.env.cells.lookup y.1 = some c := fun y hy e => by
    rcases S.free y hy e with k | k
    · exact I.ok.has _ (.inl k)
    · exact I.ok.has _ (.inr k)
  refine wpAny_GeneratorExp_make S.co (closure_ok hfree) S.cell S.dot S.kind (by have := hr.dp; omega) ?_ hs
  refine thn (hi.run pins s σ H _ I h) fun xv s1 h1 => thn h1 fun itv s2 h2 => ?_
  obtain ⟨it, fp, tn, J, H2, e, I2, T, st2, f2, ⟨ps, hP, ht⟩, q⟩ := h2
  subst e
  refine ⟨I2.nolimit, ?_⟩
  have hPs : s2.heap.get? P = some { cls := .none, data := .fields ps } := I2.hok P _ hP
  have cd : PySem.W.CodeHd s2.heap c P := TB.code.keeps fun b u e => I2.bk b u e
  have hfpP : ∀ b ∈ fp, b ≠ P := fun b hb z => by
    have := (f2 b hb).1
    rw [z, hP] at this
    cases this
  have cont : ∀ (code : Value) (h3 : Heap) (tk : Nat) (ps' : Array Value), Heap.ExtBut P s2.heap h3 → s2.heap.objs.size ≤ h3.objs.size → h3.get? P = some { cls := .none, data := .fields ps' } → (∃ more, ps' = ps ++ more) → TriplesOk ps'.toList →
      wpAny (model X.prog X.w) X.A (builtinsFor X.env.globals X.env.builtins) (fun bi s₄ =>
        ∀ h', h'.Ns s₄.heap.objs.size (fun y => if y = ".0" then some (.ref it) else none) → Heap.SameBut s₄.heap.objs.size (s₄.heap.push { cls := .type "frame", data := .dict #[] }) h' →
          Q' (.ref h'.objs.size) { s₄ with
            gens := s₄.gens.push (.fresh (.compStart (.GeneratorExp elt [⟨tgx, iter, ifs, 0⟩] scope gpos) 0 (.ref it) .none (genEnv scope (cloFrom X.env.cells scope.names []) s₄.heap.objs.size code bi X.env))),
            toks := s₄.toks + 1 + 1 + 1,
            heap := h'.push { cls := .type "generator", data := .fields #[.int s₄.gens.size 0, .str "<genexpr>" (s₄.toks + 1), .str (X.env.qual ++ "<genexpr>") (s₄.toks + 1 + 1)] } }) X.xe { s2 with heap := h3, toks := tk } := by
    intro code h3 tk ps' hx hsz hP3 hmore ht3
    obtain ⟨bm, ob, e1, e2, e3, e4, e5, e6, e7, e8⟩ := TB.bm
    have keep3 : ∀ b u, b ≠ P → s2.heap.get? b = some u → h3.get? b = some u := fun b u hb e => hx b u hb e
    refine wpAny_builtinsFor (m := X.mg) (by rw [I2.ok.glob]; exact (I2.mod.glob.keeps I2.bk).extBut hx TB.gP) e1 e2 (keep3 _ _ e4 (I2.bk _ _ e5)) e6 e7 e8 ?_
    intro h' hn' hs'
    obtain ⟨more, em⟩ := hmore
    have I4 : Inv X pins σ (upd H2 P (.tbl (ps ++ more))) { s2 with heap := h3, toks := tk } := inv_tab (more := more) (h' := h3) (g' := s2.gens) (d' := s2.drawn) (t' := tk) I2 hP (fun b u hb e => keep3 b u hb e) (by rw [← em]; exact hP3) I2.bare
    have hR : R J (upd H2 P (.tbl (ps ++ more))) := q _ ⟨⟨ps ++ more, upd_same, by rw [← em]; exact ht3⟩, fun b hb => upd_ne hb⟩
    have hsz' : h'.objs.size = h3.objs.size + 1 := by rw [hs'.1, Heap.size_push]
    have keep' : ∀ b o, h3.get? b = some o → h'.get? b = some o := fun b o e => hs'.extBut b o (Nat.ne_of_lt (Heap.lt_size e)) (Heap.get?_push_of_some _ e)
    refine hQ J _ _ _ hR ⟨it, fp, tn, code, { s2 with heap := h3, toks := tk }, _, s2.gens.size, _, I4, T, ?_, fun b hb => ⟨⟨?_, (f2 b hb).2⟩, ?_⟩, ?_, ?_, hn'.push _, fun b o e => Heap.get?_push_of_some _ (keep' b o e), Heap.get?_push_size _ rfl, (fun v z => nomatch z), (fun h e => ⟨_, _, _, e, rfl, rfl, rfl⟩), Array.getElem?_push_size .., AllBare.push I2.bare rfl, rfl⟩
    · exact T.keep _ _ _ st2 fun b hb o e => Heap.get?_push_of_some _ (keep' b o (keep3 b o (hfpP b hb) e))
    · rw [upd_ne (hfpP b hb)]
      exact (f2 b hb).1
    · obtain ⟨o, e, _⟩ := T.obj _ _ st2 b hb
      exact Nat.lt_of_lt_of_le (Heap.lt_size e) hsz
    · show h3.objs.size < h'.objs.size
      omega
    · show h'.objs.size < (h'.push _).objs.size
      rw [Heap.size_push]
      exact Nat.lt_succ_self _
  cases hf : codeAmong gpos ps.toList with
  | none =>
    refine wpAny_genexprCodeX hcode (cd.code hPs ht) (cd.tab hPs) hf fun c' h' tk hx hge hlt hco' _ htab' _ => ?_
    obtain ⟨o1, vs, f1, tf, fl, tg, inF, tx, tt, op, _, _, _, _, _, _, _, _, _, htr, _⟩ := hco'
    exact cont _ h' tk _ hx (Nat.le_trans hge (Nat.le_of_lt hlt)) htab'.2 ⟨_, rfl⟩ htr
  | some cv =>
    refine wpAny_genexprCode_hit hcode (cd.code hPs ht) hf ?_
    exact cont cv s2.heap s2.toks ps (Heap.ExtBut.refl _ _) (Nat.le_refl _) hPs ⟨#[], by simp⟩ ht
end
/-- what is wanted of an item; st: the truth that ends the walk -/
def YlB (st : Bool) (W : Nat → Nat → Hp → Prop) (Qs : Hp → Prop) : Nat → Nat → V → Hp → Prop := fun i m y H => ∃ b, y = .bl b ∧ (b = (!st) → ∃ m', m' < m ∧ W (i + 1) m' H) ∧ (b = st → Qs H)
theorem Inv_kept {X : Cx} {pins : List (Addr × Obj)} {σ : L2.St} {H : Hp} {s s' : Shared} (I : Inv X pins σ H s) (ho : s'.os = s.os) (k : ∀ b o, s.heap.get? b = some o → s'.heap.get? b = some o) (hb : AllBare s'.gens) : Inv X pins σ H s' :=
  I.call' (ch := []) ho (Un.kept k) (I.hok.kept k) hb fun b z => by simp at z
section
variable {X' : Cx} {A : Around} {R : Result → Shared → Prop} {a : Addr} {go : Obj} {g : Nat} {fp : List Addr} {σ0 : L2.St} {W : Nat → Nat → Hp → Prop} {Qt Qf : Hp → Prop}
theorem gn_all_loop (hh : A.handled = none) (hd : A.depth < recursionLimit) (hgen : ∀ h : Heap, h.get? a = some go → h.IsGen a g)
    (hend : ∀ (r : Bool) s' pS H, Inv X' ((a, go) :: pS) σ0 H s' → (if r = true then Qt H else Qf H) → R (.ok (.ret (.bool r))) s') :
    ∀ (n : Nat) (s : Shared), s.heap.get? a = some go → s.heap.NoLimit →
      (∃ gs, s.gens[g]? = some gs ∧ gs.Goes (model X'.prog X'.w) A.in1.in1 (GnR X' a go [] σ0 Qt) (GnY X' a go [] fp σ0 W (YlB false W Qf)) n (.send .none) (s.setGen g .running)) →
      codeAny (model X'.prog X'.w) A (.builtin "all.loop" ⟨[.ref a], []⟩) R s := by
  intro n
  induction n with
  | zero =>
    intro s ha hl ⟨gs, hgs, hgo⟩
    refine codeAny_builtin F.entry_all_loop ?_
    rw [Around.under_plainId F.plain_all_loop _]
    show wpAny _ A.in1 (pyNext (.ref a) >>= _) _ _ s
    refine wpAny_bind (next_genG (A := A.in1) (F := GnF X' a go [] σ0 Qt) (Er := fun _ _ => False) hh hl hd (hgen _ ha) hgs hgo (fun v s₁ gs' hbare hv => ?_) (fun s₁ hp h' hk => ?_) fun e s₁ he => he.elim)
    · obtain ⟨i, m, y, pS, H, hS, rv, I1, ⟨b, hy, y1, y2⟩, hk⟩ := hv
      subst hy
      obtain rfl : v = Value.bool b := rv
      refine wpAny_bind (wpAny_holding (wpAny_truthy_bool ?_))
      refine wpAny_bind (wpAny_letGo ?_)
      cases b with
      | true =>
        obtain ⟨m', hm, w'⟩ := y1 rfl
        exact False.elim (hk pS s₁ m' hS I1 (fun _ _ _ e => e) hm w')
      | false =>
        simp only [Bool.false_eq_true, if_false]
        refine wpAny_bind (wpAny_rule (wpAny_pure ?_))
        exact hend false _ pS H (Inv_gens I1 rfl rfl (allBare_setGen I1.bare hbare)) (by simpa using y2 rfl)
    · obtain ⟨pS, H, hS, I1, hq⟩ := hp
      have e := hend true { s₁.setGen g .finished with heap := h' } pS H (Inv_kept (Inv_gens (s' := s₁.setGen g .finished) I1 rfl rfl (allBare_setGen I1.bare rfl)) rfl hk (allBare_setGen I1.bare rfl)) (by simpa using hq)
      first
        | exact wpAny_pure e
        | exact wpAny_bind (wpAny_rule (wpAny_pure e))
  | succ n ih =>
    intro s ha hl ⟨gs, hgs, hgo⟩
    have hgl : g < s.gens.size := (Array.getElem?_eq_some_iff.mp hgs).1
    refine codeAny_builtin F.entry_all_loop ?_
    rw [Around.under_plainId F.plain_all_loop _]
    show wpAny _ A.in1 (pyNext (.ref a) >>= _) _ _ s
    refine wpAny_bind (wpAny_gsz (n := g + 1) hgl (next_genG (A := A.in1) (F := GnF X' a go [] σ0 Qt) (Er := fun _ _ => False) hh hl hd (hgen _ ha) hgs hgo (fun v s₁ gs' hbare hv => ?_) (fun s₁ hp h' hk => ?_) fun e s₁ he => he.elim))
    · intro hsz
      obtain ⟨i, m, y, pS, H, hS, rv, I1, ⟨b, hy, y1, y2⟩, hk⟩ := hv
      subst hy
      obtain rfl : v = Value.bool b := rv
      refine wpAny_bind (wpAny_holding (wpAny_truthy_bool ?_))
      refine wpAny_bind (wpAny_letGo ?_)
      cases b with
      | true =>
        obtain ⟨m', hm, w'⟩ := y1 rfl
        simp only [if_true]
        have hsz1 : g < s₁.gens.size := by
          have q : (s₁.setGen g gs').gens.size = s₁.gens.size := setGen_size _ _ _
          have hsz' : g + 1 ≤ (s₁.setGen g gs').gens.size := hsz
          omega
        have ha1 : s₁.heap.get? a = some go := (I1.pin (a, go) (List.mem_append_right _ List.mem_cons_self)).1
        refine wpAny_pure ⟨plainId_quiet F.plain_all_loop _, ih (s₁.setGen g gs') ha1 I1.nolimit ⟨gs', setGen_at hsz1, ?_⟩⟩
        exact hk pS _ m' hS (Inv_gens I1 rfl rfl (allBare_setGen (s := s₁.setGen g gs') (allBare_setGen I1.bare hbare) rfl)) (fun _ _ _ e => e) hm w'
      | false =>
        simp only [Bool.false_eq_true, if_false]
        refine wpAny_bind (wpAny_rule (wpAny_pure ?_))
        exact hend false _ pS H (Inv_gens I1 rfl rfl (allBare_setGen I1.bare hbare)) (by simpa using y2 rfl)
    · intro hsz
      obtain ⟨pS, H, hS, I1, hq⟩ := hp
      have e := hend true { s₁.setGen g .finished with heap := h' } pS H (Inv_kept (Inv_gens (s' := s₁.setGen g .finished) I1 rfl rfl (allBare_setGen I1.bare rfl)) rfl hk (allBare_setGen I1.bare rfl)) (by simpa using hq)
      first
        | exact wpAny_pure e
        | exact wpAny_bind (wpAny_rule (wpAny_pure e))
theorem gn_any_loop (hh : A.handled = none) (hd : A.depth < recursionLimit) (hgen : ∀ h : Heap, h.get? a = some go → h.IsGen a g)
    (hend : ∀ (r : Bool) s' pS H, Inv X' ((a, go) :: pS) σ0 H s' → (if r = true then Qt H else Qf H) → R (.ok (.ret (.bool r))) s') :
    ∀ (n : Nat) (s : Shared), s.heap.get? a = some go → s.heap.NoLimit →
      (∃ gs, s.gens[g]? = some gs ∧ gs.Goes (model X'.prog X'.w) A.in1.in1 (GnR X' a go [] σ0 Qf) (GnY X' a go [] fp σ0 W (YlB true W Qt)) n (.send .none) (s.setGen g .running)) →
      codeAny (model X'.prog X'.w) A (.builtin "any.loop" ⟨[.ref a], []⟩) R s := by
  intro n
  induction n with
  | zero =>
    intro s ha hl ⟨gs, hgs, hgo⟩
    refine codeAny_builtin F.entry_any_loop ?_
    rw [Around.under_plainId F.plain_any_loop _]
    show wpAny _ A.in1 (pyNext (.ref a) >>= _) _ _ s
    refine wpAny_bind (next_genG (A := A.in1) (F := GnF X' a go [] σ0 Qf) (Er := fun _ _ => False) hh hl hd (hgen _ ha) hgs hgo (fun v s₁ gs' hbare hv => ?_) (fun s₁ hp h' hk => ?_) fun e s₁ he => he.elim)
    · obtain ⟨i, m, y, pS, H, hS, rv, I1, ⟨b, hy, y1, y2⟩, hk⟩ := hv
      subst hy
      obtain rfl : v = Value.bool b := rv
      refine wpAny_bind (wpAny_holding (wpAny_truthy_bool ?_))
      refine wpAny_bind (wpAny_letGo ?_)
      cases b with
      | false =>
        obtain ⟨m', hm, w'⟩ := y1 rfl
        exact False.elim (hk pS s₁ m' hS I1 (fun _ _ _ e => e) hm w')
      | true =>
        simp only [if_true]
        refine wpAny_bind (wpAny_rule (wpAny_pure ?_))
        exact hend true _ pS H (Inv_gens I1 rfl rfl (allBare_setGen I1.bare hbare)) (by simpa using y2 rfl)
    · obtain ⟨pS, H, hS, I1, hq⟩ := hp
      have e := hend false { s₁.setGen g .finished with heap := h' } pS H (Inv_kept (Inv_gens (s' := s₁.setGen g .finished) I1 rfl rfl (allBare_setGen I1.bare rfl)) rfl hk (allBare_setGen I1.bare rfl)) (by simpa using hq)
      first
        | exact wpAny_pure e
        | exact wpAny_bind (wpAny_rule (wpAny_pure e))
  | succ n ih =>
    intro s ha hl ⟨gs, hgs, hgo⟩
    have hgl : g < s.gens.size := (Array.getElem?_eq_some_iff.mp hgs).1
    refine codeAny_builtin F.entry_any_loop ?_
    rw [Around.under_plainId F.plain_any_loop _]
    show wpAny _ A.in1 (pyNext (.ref a) >>= _) _ _ s
    refine wpAny_bind (wpAny_gsz (n := g + 1) hgl (next_genG (A := A.in1) (F := GnF X' a go [] σ0 Qf) (Er := fun _ _ => False) hh hl hd (hgen _ ha) hgs hgo (fun v s₁ gs' hbare hv => ?_) (fun s₁ hp h' hk => ?_) fun e s₁ he => he.elim))
    · intro hsz
      obtain ⟨i, m, y, pS, H, hS, rv, I1, ⟨b, hy, y1, y2⟩, hk⟩ := hv
      subst hy
      obtain rfl : v = Value.bool b := rv
      refine wpAny_bind (wpAny_holding (wpAny_truthy_bool ?_))
      refine wpAny_bind (wpAny_letGo ?_)
      cases b with
      | false =>
        obtain ⟨m', hm, w'⟩ := y1 rfl
        simp only [Bool.false_eq_true, if_false]
        have hsz1 : g < s₁.gens.size := by
          have q : (s₁.setGen g gs').gens.size = s₁.gens.size := setGen_size _ _ _
          have hsz' : g + 1 ≤ (s₁.setGen g gs').gens.size := hsz
          omega
        have ha1 : s₁.heap.get? a = some go := (I1.pin (a, go) (List.mem_append_right _ List.mem_cons_self)).1
        refine wpAny_pure ⟨plainId_quiet F.plain_any_loop _, ih (s₁.setGen g gs') ha1 I1.nolimit ⟨gs', setGen_at hsz1, ?_⟩⟩
        exact hk pS _ m' hS (Inv_gens I1 rfl rfl (allBare_setGen (s := s₁.setGen g gs') (allBare_setGen I1.bare hbare) rfl)) (fun _ _ _ e => e) hm w'
      | true =>
        simp only [if_true]
        refine wpAny_bind (wpAny_rule (wpAny_pure ?_))
        exact hend true _ pS H (Inv_gens I1 rfl rfl (allBare_setGen I1.bare hbare)) (by simpa using y2 rfl)
    · intro hsz
      obtain ⟨pS, H, hS, I1, hq⟩ := hp
      have e := hend false { s₁.setGen g .finished with heap := h' } pS H (Inv_kept (Inv_gens (s' := s₁.setGen g .finished) I1 rfl rfl (allBare_setGen I1.bare rfl)) rfl hk (allBare_setGen I1.bare rfl)) (by simpa using hq)
      first
        | exact wpAny_pure e
        | exact wpAny_bind (wpAny_rule (wpAny_pure e))
end
end Mi

/-! all(..), any(..), sum(..) of generator expressions. -/
namespace Mi
open PySem PySem.Spec PyProof.Rows L2 GxR GenW
def tGnB (st : Bool) (P : Addr) (wi : TI) (g : TG) (tt : TT) (te : TE) (vs : List Nat) (mk : L2.St → L2.St) : TE := fun σ H Q => wi σ H fun J H1 => TabG H1 P ∧ ∀ H4, Tabbed P H1 H4 →
  ∃ (W : Nat → Nat → Hp → Prop) (m : Nat), W 0 m H4 ∧ GnTurn J W (fun H => Q (.bl (!st)) H) (YlB st W fun H => Q (.bl st) H) g tt te vs (mk σ)
section
variable {X : Cx} {N : List Str} {scope : Scope} {tgx iter elt : Expr} {ifs : List Expr} {c P : Addr} {gpos p pos : Pos} {wi : TI} {g : TG} {tt : TT} {te : TE} {vs : List Nat} {mk : L2.St → L2.St} {k : Nat}
theorem room_gn {A : Around} {env : Env} (hr : Room (k + 2) A) : Room k (A.in1.in1.deeper env) := by
  have h : Room (k + 1) A.in1.in1 := by
    refine ⟨hr.hd, ?_, ?_⟩
    · have := hr.dp
      show A.depth + 3 * (k + 1) + 5 < _
      omega
    · have := hr.un
      show A.units + 1 + 1 + 16 * (k + 1) + 200 < _
      omega
  exact h.deeper env
theorem gn_run (hr : Room (k + 2) X.A) (S : GnOk N X.env.scope scope) (hcap : ∀ σ : L2.St, σ.length = X.N.length → GnSt N scope X.N σ (mk σ) ∧ wipe (mk σ) vs = mk σ)
    (hpg : ∀ (s4 : Shared) (H4 : Hp) (code : Value) (fp : List Addr), PG (gnX X X.A.in1.in1 s4 H4 N (genEnv scope (cloFrom X.env.cells scope.names []) s4.heap.objs.size code builtinsNs X.env) fp) tgx g)
    (hpt : ∀ (s4 : Shared) (H4 : Hp) (code : Value) (fp : List Addr), PTs (gnX X X.A.in1.in1 s4 H4 N (genEnv scope (cloFrom X.env.cells scope.names []) s4.heap.objs.size code builtinsNs X.env) fp) ifs tt)
    (hpe : ∀ (s4 : Shared) (H4 : Hp) (code : Value) (fp : List Addr), PE (gnX X X.A.in1.in1 s4 H4 N (genEnv scope (cloFrom X.env.cells scope.names []) s4.heap.objs.size code builtinsNs X.env) fp) elt te)
    {pins : List (Addr × Obj)} {σ : L2.St} {J : It} {H4 : Hp} {a : Addr} {s5 : Shared} (hG : GnMade X pins σ scope tgx elt iter ifs gpos J H4 a s5) {W : Nat → Nat → Hp → Prop} {m : Nat} (hw : W 0 m H4) {Fin : Hp → Prop} {Yl : Nat → Nat → V → Hp → Prop} (turn : GnTurn J W Fin Yl g tt te vs (mk σ)) :
    ∃ (X' : Cx) (go : Obj) (gi : Nat) (gs : GenState) (fp : List Addr), X'.prog = X.prog ∧ X'.w = X.w ∧ s5.heap.get? a = some go ∧ s5.heap.NoLimit ∧ (∀ h : Heap, h.get? a = some go → h.IsGen a gi) ∧ s5.gens[gi]? = some gs ∧ (∀ b ∈ fp, b < s5.heap.objs.size) ∧ X'.s_0.heap.objs.size < s5.heap.objs.size ∧ X'.env.locals < s5.heap.objs.size ∧ (∀ x c, X'.env.cells.lookup x = some c → c < s5.heap.objs.size) ∧ AllBare s5.gens ∧ X'.pn = [] ∧ a < s5.heap.objs.size ∧
      (∀ (pS : List (Addr × Obj)) (H' : Hp) (s' : Shared), Inv X' ((a, go) :: pS) (mk σ) H' s' → Inv X pins σ H' s') ∧
      ∀ (pS : List (Addr × Obj)) (s6 : Shared), (∀ p ∈ pS, s6.heap.get? p.1 = some p.2 ∧ s5.heap.objs.size ≤ p.1 ∧ ∀ v, p.2.data ≠ .cell v) → (∀ b o, s5.heap.get? b = some o → s6.heap.get? b = some o) → s6.os = s5.os → AllBare s6.gens →
        gs.Goes (model X.prog X.w) X.A.in1.in1 (GnR X' a go (pS.map (·.1)) (mk σ) Fin) (GnY X' a go (pS.map (·.1)) fp (mk σ) W Yl) (m + 1) (.send .none) s6 := by
  obtain ⟨it, fp, tn, code, s4, go, gi, mm, I4, T, st5, f4, ha4, ha5, hn5, kp, hgo, hgd, hgen, hgs, hb5, ho5⟩ := hG
  have hlen : σ.length = X.N.length := I4.len
  have lt5 : s4.heap.objs.size < s5.heap.objs.size := Nat.lt_trans ha4 ha5
  have back : ∀ (pS : List (Addr × Obj)) (H' : Hp) (s' : Shared), Inv (gnX X X.A.in1.in1 s4 H4 N (genEnv scope (cloFrom X.env.cells scope.names []) s4.heap.objs.size code builtinsNs X.env) fp) ((a, go) :: pS) (mk σ) H' s' → Inv X pins σ H' s' := fun pS H' s' I6 =>
    I4.call' (ch := fp) I6.os I6.base I6.hok I6.bare fun b hb => ⟨(f4 b hb).1.2.2.2.1, (f4 b hb).1.2.1, (f4 b hb).1.2.2.2.2.1, (f4 b hb).1.2.2.2.2.2⟩
  have hcells : ∀ (x : Str) (c : Addr), (genEnv scope (cloFrom X.env.cells scope.names []) s4.heap.objs.size code builtinsNs X.env).cells.lookup x = some c → c < s5.heap.objs.size := fun x c e => by
    have e : (cloFrom X.env.cells scope.names []).lookup x = some c := e
    rcases cloFrom_mem (PySem.mem_of_lookup e) with hm | ⟨h1, h2⟩
    · cases hm
    · rcases S.free _ h1 rfl with k | k
      · obtain ⟨c', hc⟩ := I4.ok.has _ (.inl k)
        obtain ⟨w, z⟩ := I4.cell _ _ hc
        rw [hc] at h2
        rw [h2]
        exact Nat.lt_trans z.lt lt5
      · obtain ⟨c', hc⟩ := I4.ok.has _ (.inr k)
        obtain ⟨w, z⟩ := I4.cell _ _ hc
        rw [hc] at h2
        rw [h2]
        exact Nat.lt_trans z.lt lt5
  refine ⟨gnX X X.A.in1.in1 s4 H4 N (genEnv scope (cloFrom X.env.cells scope.names []) s4.heap.objs.size code builtinsNs X.env) fp, go, gi, _, fp, rfl, rfl, hgo, I4.nolimit.keeps kp, hgen, hgs, fun b hb => Nat.lt_trans (f4 b hb).2 lt5, lt5, lt5, hcells, hb5, rfl, ha5, back, fun pS s6 hpS kp6 ho6 hb6 => ⟨rfl, ?_⟩⟩
  have I6 := gn_start (A := X.A.in1.in1) (code := code) I4 S (hcap σ hlen).1 f4 hr.hd I4.ok.frames ha4 hgd (hn5.keeps kp6) (fun b o e => kp6 b o (kp b o e)) (kp6 a go hgo) (ho6.trans ho5) hb6 (pS := pS) (fun p hp => by
    obtain ⟨q1, q2, q3⟩ := hpS p hp
    exact ⟨q1, Nat.lt_of_lt_of_le lt5 q2, q3⟩)
  have haf : a ∉ fp := fun z => absurd (Nat.lt_trans (f4 a z).2 ha4) (Nat.lt_irrefl _)
  refine gn_seg (X' := gnX X X.A.in1.in1 s4 H4 N (genEnv scope (cloFrom X.env.cells scope.names []) s4.heap.objs.size code builtinsNs X.env) fp) rfl rfl rfl rfl S.co (fun b hb => hb) haf (fun b hb z => ?_) T (hpg s4 H4 code fp) (hpt s4 H4 code fp) (hpe s4 H4 code fp) (hcap σ hlen).2 turn (Nat.lt_succ_self m) rfl I6 (T.keep _ _ _ st5 fun b _ o e => kp6 b o e) (fun b hb => (f4 b hb).1.1) hw
  obtain ⟨q, hq, e⟩ := List.mem_map.mp hb
  have h1 := (hpS q hq).2.1
  rw [e] at h1
  have h2 := (f4 b z).2
  have : b < b := Nat.lt_of_lt_of_le (Nat.lt_trans h2 lt5) h1
  exact absurd this (Nat.lt_irrefl _)
theorem pe_allG (hr : Room (k + 2) X.A) (hg : Gl X "all") (hm : X.mg "all" = none) (hb : bootBuiltins "all" = some (.builtin "all")) (TB : TabB X.base X.mg c P) (hcode : X.env.code = .ref c) (S : GnOk N X.env.scope scope) (hcap : ∀ σ : L2.St, σ.length = X.N.length → GnSt N scope X.N σ (mk σ) ∧ wipe (mk σ) vs = mk σ)
    (hi : PI X tgx iter wi)
    (hpg : ∀ (s4 : Shared) (H4 : Hp) (code : Value) (fp : List Addr), PG (gnX X X.A.in1.in1 s4 H4 N (genEnv scope (cloFrom X.env.cells scope.names []) s4.heap.objs.size code builtinsNs X.env) fp) tgx g)
    (hpt : ∀ (s4 : Shared) (H4 : Hp) (code : Value) (fp : List Addr), PTs (gnX X X.A.in1.in1 s4 H4 N (genEnv scope (cloFrom X.env.cells scope.names []) s4.heap.objs.size code builtinsNs X.env) fp) ifs tt)
    (hpe : ∀ (s4 : Shared) (H4 : Hp) (code : Value) (fp : List Addr), PE (gnX X X.A.in1.in1 s4 H4 N (genEnv scope (cloFrom X.env.cells scope.names []) s4.heap.objs.size code builtinsNs X.env) fp) elt te)
    (hs : ∀ v, genFold iter X.env v = pure v)
    (he : starEach [.GeneratorExp elt [⟨tgx, iter, ifs, 0⟩] scope gpos] X.env = (false, eval (.GeneratorExp elt [⟨tgx, iter, ifs, 0⟩] scope gpos) X.env) :: starEach [] X.env := by rfl) :
    PE X (.Call (.Name "all" p) [.GeneratorExp elt [⟨tgx, iter, ifs, 0⟩] scope gpos] [] pos) (tGnB false P wi g tt te vs mk) := by
  refine ⟨fun pins s σ H Q I h => ?_⟩
  refine wpAny_Call_Name_kw (ld_blt I hg hm hb ?_)
  refine PyProof.Rows.callWith_builtin1 ?_ he (by rfl)
  rw [he]
  show wpAny _ _ (spliced ((false, eval (.GeneratorExp elt [⟨tgx, iter, ifs, 0⟩] scope gpos) X.env) :: backTo pos (starEach [] X.env))) _ _ s
  refine Calls.spliced_cons (gn_eval hr TB hcode S hi hs I h fun J H4 a s5 hR hG => ?_)
  refine Calls.spliced_nil ?_
  obtain ⟨W, m, hw, turn⟩ := hR
  obtain ⟨X', go, gi, gs, fp, e1, e2, hgo, hnl, hgen, hgs, _, _, _, _, hb5, _, _, back, goes⟩ := gn_run hr S hcap hpg hpt hpe hG hw turn
  refine call_function_tree PySem.F.kind_all PySem.F.plain_all PySem.F.entry_all (PySem.F.args_all1 _) ?_
  unfold Builtin.«all»
  refine wpAny_bind (m := oneArg "all" _) (wpAny_pure ?_)
  refine wpAny_bind (wpAny_pyIter_gen (hgen _ hgo) ?_)
  have key := gn_all_loop (X' := X') (A := X.A) (R := wants (fun u s' => EP X pins σ Q u s') X.xe) (a := a) (go := go) (g := gi) (fp := fp) (σ0 := mk σ) (W := W) (Qt := fun H => Q (.bl true) H) (Qf := fun H => Q (.bl false) H) hr.hd (by have := hr.dp; omega) hgen
    (fun r s' pS H' I6 hq => ⟨.bl r, H', back pS H' s' I6, rfl, by cases r <;> simpa using hq⟩) (m + 1) s5 hgo hnl ⟨gs, hgs, by
      rw [e1, e2]
      exact goes [] (s5.setGen gi .running) (fun p hp => by simp at hp) (fun _ _ e => e) rfl (allBare_setGen hb5 rfl)⟩
  rw [e1, e2] at key
  exact wpAny_pure ⟨plainId_quiet PySem.F.plain_all_loop _, key⟩
theorem pe_anyG (hr : Room (k + 2) X.A) (hg : Gl X "any") (hm : X.mg "any" = none) (hb : bootBuiltins "any" = some (.builtin "any")) (TB : TabB X.base X.mg c P) (hcode : X.env.code = .ref c) (S : GnOk N X.env.scope scope) (hcap : ∀ σ : L2.St, σ.length = X.N.length → GnSt N scope X.N σ (mk σ) ∧ wipe (mk σ) vs = mk σ)
    (hi : PI X tgx iter wi)
    (hpg : ∀ (s4 : Shared) (H4 : Hp) (code : Value) (fp : List Addr), PG (gnX X X.A.in1.in1 s4 H4 N (genEnv scope (cloFrom X.env.cells scope.names []) s4.heap.objs.size code builtinsNs X.env) fp) tgx g)
    (hpt : ∀ (s4 : Shared) (H4 : Hp) (code : Value) (fp : List Addr), PTs (gnX X X.A.in1.in1 s4 H4 N (genEnv scope (cloFrom X.env.cells scope.names []) s4.heap.objs.size code builtinsNs X.env) fp) ifs tt)
    (hpe : ∀ (s4 : Shared) (H4 : Hp) (code : Value) (fp : List Addr), PE (gnX X X.A.in1.in1 s4 H4 N (genEnv scope (cloFrom X.env.cells scope.names []) s4.heap.objs.size code builtinsNs X.env) fp) elt te)
    (hs : ∀ v, genFold iter X.env v = pure v)
    (he : starEach [.GeneratorExp elt [⟨tgx, iter, ifs, 0⟩] scope gpos] X.env = (false, eval (.GeneratorExp elt [⟨tgx, iter, ifs, 0⟩] scope gpos) X.env) :: starEach [] X.env := by rfl) :
    PE X (.Call (.Name "any" p) [.GeneratorExp elt [⟨tgx, iter, ifs, 0⟩] scope gpos] [] pos) (tGnB true P wi g tt te vs mk) := by
  refine ⟨fun pins s σ H Q I h => ?_⟩
  refine wpAny_Call_Name_kw (ld_blt I hg hm hb ?_)
  refine PyProof.Rows.callWith_builtin1 ?_ he (by rfl)
  rw [he]
  show wpAny _ _ (spliced ((false, eval (.GeneratorExp elt [⟨tgx, iter, ifs, 0⟩] scope gpos) X.env) :: backTo pos (starEach [] X.env))) _ _ s
  refine Calls.spliced_cons (gn_eval hr TB hcode S hi hs I h fun J H4 a s5 hR hG => ?_)
  refine Calls.spliced_nil ?_
  obtain ⟨W, m, hw, turn⟩ := hR
  obtain ⟨X', go, gi, gs, fp, e1, e2, hgo, hnl, hgen, hgs, _, _, _, _, hb5, _, _, back, goes⟩ := gn_run hr S hcap hpg hpt hpe hG hw turn
  refine call_function_tree PySem.F.kind_any PySem.F.plain_any PySem.F.entry_any (PySem.F.args_any1 _) ?_
  unfold Builtin.«any»
  refine wpAny_bind (m := oneArg "any" _) (wpAny_pure ?_)
  refine wpAny_bind (wpAny_pyIter_gen (hgen _ hgo) ?_)
  have key := gn_any_loop (X' := X') (A := X.A) (R := wants (fun u s' => EP X pins σ Q u s') X.xe) (a := a) (go := go) (g := gi) (fp := fp) (σ0 := mk σ) (W := W) (Qt := fun H => Q (.bl true) H) (Qf := fun H => Q (.bl false) H) hr.hd (by have := hr.dp; omega) hgen
    (fun r s' pS H' I6 hq => ⟨.bl r, H', back pS H' s' I6, rfl, by cases r <;> simpa using hq⟩) (m + 1) s5 hgo hnl ⟨gs, hgs, by
      rw [e1, e2]
      exact goes [] (s5.setGen gi .running) (fun p hp => by simp at hp) (fun _ _ e => e) rfl (allBare_setGen hb5 rfl)⟩
  rw [e1, e2] at key
  exact wpAny_pure ⟨plainId_quiet PySem.F.plain_any_loop _, key⟩
end
end Mi

/-! all(..), any(..) of generator expressions in compact programs. -/
namespace Mi
open PySem PySem.Spec PyProof.Rows L2 GxR GenW
/-- a generator expression's turn: none: a test has thrown the item out -/
def gnTurn (tg : Tg) (vs : List Nat) (cs : List Ex) (x : Ex) (d : D) (e : Env') : Option (Option D × Env') := match tg.bind d e with
  | some e3 => (match evt cs e3 with
    | some (true, e4) => (match ev x e4 with
      | some (.pers y, e5) => some (some y, wipeE e5 vs)
      | _ => none)
    | some (false, e4) => some (none, wipeE e4 vs)
    | none => none)
  | none => none
/-- st: the truth that ends the walk -/
def gnAll (st : Bool) (f : D → Env' → Option (Option D × Env')) : List D → Env' → Option Bool
  | [], _ => some (!st)
  | d :: ds, e => (match f d e with
    | some (none, e1) => gnAll st f ds e1
    | some (some (.bl b), e1) => if b = st then some st else gnAll st f ds e1
    | _ => none)
def initG (nt : Nat) (ds : List D) : Env' := List.replicate nt .un ++ ds.map B.im
def gnF (st : Bool) (nx : Nat) (g : List D → Option (List D)) (nt : Nat) (tg : Tg) (cs : List Ex) (x : Ex) : List D → Option D := fun ds => match g (ds.take nx) with
  | some items => (match gnAll st (gnTurn tg (List.range nt) cs x) items (initG nt (ds.drop nx)) with
    | some b => some (.bl b)
    | none => none)
  | none => none
/-- the captured places' values behind the targets -/
def capS (nt : Nat) (cs : List Nat) (σ : L2.St) : L2.St := List.replicate nt none ++ cs.map fun j => (σ[j]?).getD none
section
variable {C : Cfg} {F G0 G G' H H' : Hp} {pn : Option (Nat × Addr)} {σ : L2.St} {e e' : Env'} {v : V} {d : D}
theorem evs_app : ∀ {xs ys : List Ex} {e e' : Env'} {rs : List Rv}, evs (xs ++ ys) e = some (rs, e') → ∃ r1 e1 r2, evs xs e = some (r1, e1) ∧ evs ys e1 = some (r2, e') ∧ rs = r1 ++ r2 ∧ r1.length = xs.length
  | [], ys, e, e', rs, h => ⟨[], e, rs, by unfold evs; rfl, h, rfl, rfl⟩
  | x :: xs, ys, e, e', rs, h => by
    rw [List.cons_append] at h
    unfold evs at h
    split at h
    · rename_i r e1 q
      split at h
      · rename_i rs2 e2 q2
        cases h
        obtain ⟨r1, e3, r2, h1, h2, h3, h4⟩ := evs_app q2
        refine ⟨r :: r1, e3, r2, ?_, h2, by rw [h3]; rfl, by simp [h4]⟩
        unfold evs
        rw [q]
        dsimp only
        rw [h1]
      · cases h
    · cases h
theorem settles_app : ∀ {r1 r2 : List Rv} {e e' : Env'} {ds : List D}, settles e (r1 ++ r2) = some (ds, e') → ∃ d1 e1 d2, settles e r1 = some (d1, e1) ∧ settles e1 r2 = some (d2, e') ∧ ds = d1 ++ d2 ∧ d1.length = r1.length
  | [], r2, e, e', ds, h => ⟨[], e, ds, by unfold settles; rfl, h, rfl, rfl⟩
  | r :: r1, r2, e, e', ds, h => by
    rw [List.cons_append] at h
    unfold settles at h
    split at h
    · rename_i d e1 q
      split at h
      · rename_i ds2 e2 q2
        cases h
        obtain ⟨d1, e3, d2, h1, h2, h3, h4⟩ := settles_app q2
        refine ⟨d :: d1, e3, d2, ?_, h2, by rw [h3]; rfl, by simp [h4]⟩
        unfold settles
        rw [q]
        dsimp only
        rw [h1]
      · cases h
    · cases h
theorem settle_im {r : Rv} {i : Nat} {d0 : D} (h : r.settle e = some (d, e')) (hi : e[i]? = some (.im d0)) : e'[i]? = some (.im d0) := by
  cases r with
  | pers x => cases h; exact hi
  | bor j =>
    have g' : (match e[j]? with
      | some (.im d) => some (d, e)
      | some (.ow d) => some (d, e.set j (.im d))
      | _ => none) = some (d, e') := h
    split at g'
    · cases g'; exact hi
    · rename_i d2 hj
      cases g'
      by_cases z : j = i
      · rw [z, hi] at hj; cases hj
      · rw [List.getElem?_set_ne z]; exact hi
    · cases g'
theorem settles_im : ∀ {rs : List Rv} {e e' : Env'} {ds : List D} {i : Nat} {d0 : D}, settles e rs = some (ds, e') → e[i]? = some (.im d0) → e'[i]? = some (.im d0)
  | [], e, e', ds, i, d0, h, hi => by unfold settles at h; cases h; exact hi
  | r :: rs, e, e', ds, i, d0, h, hi => by
    unfold settles at h
    split at h
    · rename_i d e1 q
      split at h
      · rename_i ds2 e2 q2
        cases h
        exact settles_im q2 (settle_im q hi)
      · cases h
    · cases h
/-- captured places, read ahead of the settling, as they stand behind it -/
theorem capVals {rs0 : List Rv} {ds0 : List D} {e1 e2 : Env'} (R : Rel C F G0 G H pn σ e2) (hs : settles e1 rs0 = some (ds0, e2)) : ∀ {caps : List Nat} {rs : List Rv} {e1' : Env'}, evs (caps.map Ex.var) e1 = some (rs, e1') →
    e1' = e1 ∧ ∃ vs, RepRs C.K G σ e2 rs vs ∧ (caps.map fun j => (σ[j]?).getD none) = vs.map some
  | [], rs, e1', h => by
    rw [List.map_nil] at h
    unfold evs at h
    cases h
    exact ⟨rfl, [], .nil, rfl⟩
  | j :: caps, rs, e1', h => by
    rw [List.map_cons] at h
    unfold evs at h
    split at h
    · rename_i r ea q
      split at h
      · rename_i rs2 eb q2
        cases h
        have hr : ea = e1 ∧ ∃ v, RepR C.K G σ e2 r v ∧ σ[j]? = some (some v) := by
          unfold ev at q
          have kep := (settles_kept hs).1
          split at q
          · rename_i d0 hj
            cases q
            have q2 := R.sl j _ (settles_im hs hj)
            obtain ⟨v, k1, k2⟩ := q2
            exact ⟨rfl, v, k2, k1⟩
          · rename_i d0 hj
            cases q
            obtain ⟨b, d', h1, h2⟩ := kep j _ d0 hj rfl
            have q3 := R.sl j b h1
            cases b with
            | un => cases h2
            | im x => obtain ⟨v, k1, k2⟩ := q3; exact ⟨rfl, v, ⟨k1, _, _, h1, rfl⟩, k1⟩
            | ow x => obtain ⟨p, o, k1, _⟩ := q3; exact ⟨rfl, _, ⟨k1, _, _, h1, rfl⟩, k1⟩
            | io x => obtain ⟨p, o, k1, _⟩ := q3; exact ⟨rfl, _, ⟨k1, _, _, h1, rfl⟩, k1⟩
          · rename_i d0 hj
            cases q
            obtain ⟨b, d', h1, h2⟩ := kep j _ d0 hj rfl
            have q3 := R.sl j b h1
            cases b with
            | un => cases h2
            | im x => obtain ⟨v, k1, k2⟩ := q3; exact ⟨rfl, v, ⟨k1, _, _, h1, rfl⟩, k1⟩
            | ow x => obtain ⟨p, o, k1, _⟩ := q3; exact ⟨rfl, _, ⟨k1, _, _, h1, rfl⟩, k1⟩
            | io x => obtain ⟨p, o, k1, _⟩ := q3; exact ⟨rfl, _, ⟨k1, _, _, h1, rfl⟩, k1⟩
          · cases q
        obtain ⟨he, v, rv, hv⟩ := hr
        subst he
        obtain ⟨he2, vs, rvs, hvs⟩ := capVals R hs q2
        subst he2
        exact ⟨rfl, v :: vs, .cons rv rvs, by rw [List.map_cons, List.map_cons, hvs, hv]; rfl⟩
      · cases h
    · cases h
/-- the generator's frame begins -/
theorem Rel.gen (R : Rel C F G0 G H pn σ e) {nt : Nat} {caps : List Nat} {vs : List V} {ds : List D} (r : RepL C.K G vs ds) (hc : (caps.map fun j => (σ[j]?).getD none) = vs.map some) :
    Rel C (fun p => if p ∈ C.tt then none else H p) G G H none (capS nt caps σ) (initG nt ds) := by
  have noOw : ∀ {i : Nat} {b : B}, (initG nt ds)[i]? = some b → b.isOw = true → False := fun {i b} h1 h2 => by
    unfold initG at h1
    by_cases hi : i < nt
    · rw [List.getElem?_append_left (by simpa using hi), List.getElem?_replicate, if_pos hi] at h1
      cases h1; cases h2
    · rw [List.getElem?_append_right (by simpa using hi), List.getElem?_map] at h1
      cases q : ds[i - (List.replicate nt B.un).length]? with
      | none => rw [q] at h1; cases h1
      | some d => rw [q] at h1; cases h1; cases h2
  refine ⟨fun p o h => ?_, R.gh, fun _ _ _ => rfl, fun P hP => ⟨(R.tb P hP).1, (R.tb P hP).2.1, if_pos hP⟩, fun i b hb => ?_, fun i j p ⟨_, b, h1, h2⟩ => (noOw h1 h2).elim, fun i p h => (nomatch h), ?_⟩
  · split at h
    · cases h
    · exact h
  · unfold initG at hb
    unfold capS
    by_cases hi : i < nt
    · rw [List.getElem?_append_left (by simpa using hi), List.getElem?_replicate, if_pos hi] at hb
      cases hb
      trivial
    · rw [List.getElem?_append_right (by simpa using hi), List.getElem?_map, List.length_replicate] at hb
      rw [List.getElem?_append_right (by simpa using hi), List.length_replicate, hc, List.getElem?_map]
      cases q : ds[i - nt]? with
      | none => rw [q] at hb; cases hb
      | some d =>
        rw [q] at hb
        cases hb
        obtain ⟨v, hv, rv⟩ := r.getD q
        exact ⟨v, by rw [hv]; rfl, rv⟩
  · unfold capS initG
    have h1 := congrArg List.length hc
    rw [List.length_map, List.length_map] at h1
    rw [List.length_append, List.length_append, List.length_replicate, List.length_replicate, List.length_map, List.length_map, h1, r.length]
/-- .. and has ended -/
theorem Rel.ungen (R : Rel C F G0 G H pn σ e) {Gn Hn : Hp} {σ' : L2.St} {e' : Env'} {pn' : Option (Nat × Addr)} (R' : Rel C (fun p => if p ∈ C.tt then none else H p) G Gn Hn pn' σ' e') (s : Same G Gn) : Grow C G H Gn Hn := by
  refine ⟨s, R'.gh, fun p hp ht => ?_, fun p hp hn => ?_, R'.tabs⟩
  · cases q : H p with
    | none => exact absurd q hp
    | some o => exact R'.fh p o (by rw [if_neg ht]; exact q)
  · by_cases ht : p ∈ C.tt
    · rw [(R'.tb p ht).2.1, (R.tb p ht).2.1]
    · exact R'.gf p (by rw [if_neg ht]; exact hp) (by rw [if_neg ht]; exact hn)
theorem tGn_of {st : Bool} {P : Addr} {g : List D → Option (List D)} {xs : List Ex} {caps : List Nat} {nt : Nat} {tg : Tg} {cs : List Ex} {x : Ex} (hP : P ∈ C.tt) (hsl : ∀ i ∈ tg.slots, i ∈ List.range nt) {σ : L2.St} {H : Hp} {Q : VK} (q : tE C (.mk (gnF st xs.length g nt tg cs x) (xs ++ caps.map Ex.var)) σ H Q) :
    tGnB st P (tI C g xs) (tG C tg) (tTs C cs) (tE C x) (List.range nt) (capS nt caps) σ H Q := by
  obtain ⟨F, G0, G, pn, e, r, e', R, he, k⟩ := q
  obtain ⟨rs, e1, ds, d, q1, q2, q3, rfl⟩ := ev_mk he
  obtain ⟨r1, ea, r2, v1, v2, rfl, l1⟩ := evs_app q1
  obtain ⟨d1, eb, d2, w1, w2, rfl, l2⟩ := settles_app q2
  have hea : e1 = ea := by
    have : ∀ {caps : List Nat} {rs : List Rv} {ex e2 : Env'}, evs (caps.map Ex.var) ex = some (rs, e2) → e2 = ex := by
      intro caps
      induction caps with
      | nil => intro rs ex e2 h; rw [List.map_nil] at h; unfold evs at h; cases h; rfl
      | cons j caps ih =>
        intro rs ex e2 h
        rw [List.map_cons] at h
        unfold evs at h
        split at h
        · rename_i r e1 q
          split at h
          · rename_i rs2 e2 q2
            cases h
            have h1 := ih q2
            unfold ev at q
            split at q <;> first | (cases q; exact h1) | cases q
          · cases h
        · cases h
    exact this v2
  subst hea
  unfold gnF at q3
  have hd1 : d1.length = xs.length := by rw [l2, l1]
  rw [← hd1, List.take_left, List.drop_left] at q3
  split at q3
  · rename_i items qi
    split at q3
    · rename_i b qb
      cases q3
      refine ⟨F, G0, G, pn, e, r1, e1, d1, eb, items, R, v1, w1, qi, fun J G1 H1 R1 s1 W1 => ⟨(R1.tb P hP).1, fun H4 ht => ?_⟩⟩
      have R4 := R1.grow (grow_tab R1.gh R1.tabs hP (R1.tb P hP).2.1 ht)
      obtain ⟨_, vs, rvs, hvs⟩ := capVals R4 w1 v2
      obtain ⟨G2, s2, R5, rl, _⟩ := Rel.settles R4 rvs w2
      have Rg := R5.gen (nt := nt) rl hvs
      have hw0 : ∀ {σ2 : L2.St}, OffS tg.slots (capS nt caps σ) σ2 → wipe σ2 (List.range nt) = capS nt caps σ := fun {σ2} o => by
        have hle := o.1
        apply List.ext_getElem?
        intro i
        by_cases hi : i ∈ List.range nt
        · rw [wipe_in hi, hle]
          have hlt : i < nt := List.mem_range.mp hi
          have h2 : (capS nt caps σ)[i]? = some none := by
            unfold capS
            rw [List.getElem?_append_left (by simpa using hlt), List.getElem?_replicate, if_pos hlt]
          rw [h2, if_pos (List.getElem?_eq_some_iff.mp h2).1]
        · rw [wipe_off hi, o.2 i (fun z => hi (hsl i z))]
      let W : Nat → Nat → Hp → Prop := fun i m H => m = items.length - i ∧ i ≤ items.length ∧ ∃ (G3 : Hp) (e3 : Env'), Same G2 G3 ∧ Rel C (fun p => if p ∈ C.tt then none else H4 p) G2 G3 H none (capS nt caps σ) e3 ∧ gnAll st (gnTurn tg (List.range nt) cs x) (items.drop i) e3 = some b
      refine ⟨W, items.length, ⟨rfl, Nat.zero_le _, G2, _, Same.refl G2, Rg, qb⟩, ?_⟩
      have fin : ∀ {G3 H3 : Hp} {e3 : Env'}, Same G2 G3 → Rel C (fun p => if p ∈ C.tt then none else H4 p) G2 G3 H3 none (capS nt caps σ) e3 → Q (.bl b) H3 := fun {G3 H3 e3} s3 R3 => by
        exact k (.bl b) G3 H3 (R5.grow (R5.ungen R3 s3)) ((s1.trans s2).trans s3) (.bl _)
      rintro i m H2 ⟨rfl, hi, G3, e3, s3, R3, hl⟩
      by_cases hlt : i < items.length
      · have sJ : Same G1 G3 := s2.trans s3
        refine .inr ⟨W1.go i G3 H2 hlt sJ R3.gh, fun x0 H3 yl => ?_⟩
        have hget : items[i]? = some items[i] := List.getElem?_eq_getElem hlt
        obtain ⟨G4, gr, rx⟩ := W1.yld i _ G3 H2 H3 x0 hget sJ R3.gh R3.tabs yl
        have R6 := R3.grow gr
        rw [List.drop_eq_getElem_cons hlt] at hl
        unfold gnAll at hl
        split at hl
        · rename_i e4 t1
          unfold gnTurn at t1
          split at t1
          · rename_i e5 b1
            refine ⟨_, _, G4, none, e3, _, e5, R6, rx, b1, fun σ5 R5' o5 => ⟨hw0 o5, ?_⟩⟩
            split at t1
            · rename_i e6 h6
              split at t1 <;> cases t1
            · rename_i e6 h6
              cases t1
              refine ⟨_, _, G4, none, e5, e6, false, R5', h6, fun G7 H7 R7 s7 => iteF ⟨items.length - (i + 1), by omega, rfl, by omega, G7, _, (s3.trans gr.gg).trans s7, ?_, hl⟩⟩
              have := R7.wipe (vs := List.range nt) (fun _ _ z => by cases z)
              rw [hw0 o5] at this
              exact this
            · cases t1
          · cases t1
        · rename_i b2 e4 t1
          unfold gnTurn at t1
          split at t1
          · rename_i e5 b1
            refine ⟨_, _, G4, none, e3, _, e5, R6, rx, b1, fun σ5 R5' o5 => ⟨hw0 o5, ?_⟩⟩
            split at t1
            · rename_i e6 h6
              split at t1
              · rename_i y e8 h8
                cases t1
                refine ⟨_, _, G4, none, e5, e6, true, R5', h6, fun G7 H7 R7 s7 => iteT ⟨_, _, G7, none, e6, _, e8, R7, h8, fun v G8 H8 R8 s8 rv => ?_⟩⟩
                have rv : Rep C.K G8 v (.bl b2) := rv
                cases rv
                have sA : Same G2 G8 := ((s3.trans gr.gg).trans s7).trans s8
                have R9 := R8.wipe (vs := List.range nt) (fun _ _ z => by cases z)
                rw [hw0 o5] at R9
                refine ⟨b2, rfl, fun hb => ?_, fun hb => ?_⟩
                · have hne : b2 ≠ st := by rw [hb]; cases st <;> decide
                  rw [if_neg hne] at hl
                  exact ⟨items.length - (i + 1), by omega, rfl, by omega, G8, _, sA, R9, hl⟩
                · rw [if_pos hb] at hl
                  cases hl
                  exact fin sA R9
              · cases t1
            · cases t1
            · cases t1
          · cases t1
        · cases hl
      · have hid : items.drop i = [] := List.drop_eq_nil_of_le (by omega)
        rw [hid] at hl
        unfold gnAll at hl
        cases hl
        exact .inl ⟨W1.stop i G3 H2 (by omega) (s2.trans s3) R3.gh, fin s3 R3⟩
    · cases q3
  · cases q3
end
section
variable {X : Cx} {C : Cfg} {N : List Str} {scope : Scope} {tgx iter elt : Expr} {ifs : List Expr} {c P : Addr} {gpos p pos : Pos} {k : Nat}
/-- the captured names, where they stand -/
def capOk (N N0 : List Str) (scope : Scope) (nt : Nat) (caps : List Nat) : Bool := (N.length == nt + caps.length) && (List.range caps.length).all fun i => match N[nt + i]?, caps[i]? with
  | some x, some j => (scope.names.lookup x == some NameKind.free) && (N0[j]? == some x)
  | _, _ => false
theorem cap_of {N N0 : List Str} {nt : Nat} {caps : List Nat} (h : capOk N N0 scope nt caps = true) (σ : L2.St) : GnSt N scope N0 σ (capS nt caps σ) ∧ wipe (capS nt caps σ) (List.range nt) = capS nt caps σ := by
  unfold capOk at h
  obtain ⟨h1, h2⟩ := Bool.and_eq_true_iff.mp h
  have h1 : N.length = nt + caps.length := by simpa using h1
  have len : (capS nt caps σ).length = nt + caps.length := by
    unfold capS
    rw [List.length_append, List.length_replicate, List.length_map]
  refine ⟨⟨by rw [len, h1], fun i x v e1 e2 => ?_⟩, ?_⟩
  · unfold capS at e2
    by_cases hi : i < nt
    · rw [List.getElem?_append_left (by simpa using hi), List.getElem?_replicate, if_pos hi] at e2
      cases e2
    · rw [List.getElem?_append_right (by simpa using hi), List.length_replicate, List.getElem?_map] at e2
      cases q : caps[i - nt]? with
      | none => rw [q] at e2; cases e2
      | some j =>
        rw [q] at e2
        have hk : i - nt < caps.length := (List.getElem?_eq_some_iff.mp q).1
        have h3 := List.all_eq_true.mp h2 (i - nt) (List.mem_range.mpr hk)
        rw [show nt + (i - nt) = i by omega, e1, q] at h3
        obtain ⟨h4, h5⟩ := Bool.and_eq_true_iff.mp h3
        have e2 : (σ[j]?).getD none = some v := by simpa using e2
        refine ⟨by simpa using h4, j, by simpa using h5, ?_⟩
        cases z : σ[j]? with
        | none => rw [z] at e2; cases e2
        | some w => rw [z] at e2; rw [show w = some v from e2]
  · apply List.ext_getElem?
    intro i
    by_cases hi : i ∈ List.range nt
    · have hlt : i < nt := List.mem_range.mp hi
      have h2 : (capS nt caps σ)[i]? = some none := by
        unfold capS
        rw [List.getElem?_append_left (by simpa using hlt), List.getElem?_replicate, if_pos hlt]
      rw [wipe_in hi, h2, if_pos (List.getElem?_eq_some_iff.mp h2).1]
    · rw [wipe_off hi]
variable {g : List D → Option (List D)} {xs as : List Ex} {caps : List Nat} {nt n : Nat} {tg : Tg} {cs : List Ex} {x : Ex}
theorem ce_allGn (hr : Room (k + 2) X.A) (hg : Gl X "all") (hm : X.mg "all" = none) (hb : bootBuiltins "all" = some (.builtin "all")) (TB : TabB X.base X.mg c P) (hcode : X.env.code = .ref c) (hP : P ∈ C.tt) (S : GnOk N X.env.scope scope) (hcap : capOk N X.N scope nt caps = true)
    (hsl : (tg.slots.all fun i => (List.range nt).contains i) = true) (hi : PI X tgx iter (tI C g xs)) (hn : xs.length = n) (has : as = xs ++ caps.map Ex.var)
    (hpg : ∀ (s4 : Shared) (H4 : Hp) (code : Value) (fp : List Addr), PG (gnX X X.A.in1.in1 s4 H4 N (genEnv scope (cloFrom X.env.cells scope.names []) s4.heap.objs.size code builtinsNs X.env) fp) tgx (tG C tg))
    (hpt : ∀ (s4 : Shared) (H4 : Hp) (code : Value) (fp : List Addr), PTs (gnX X X.A.in1.in1 s4 H4 N (genEnv scope (cloFrom X.env.cells scope.names []) s4.heap.objs.size code builtinsNs X.env) fp) ifs (tTs C cs))
    (hpe : ∀ (s4 : Shared) (H4 : Hp) (code : Value) (fp : List Addr), PE (gnX X X.A.in1.in1 s4 H4 N (genEnv scope (cloFrom X.env.cells scope.names []) s4.heap.objs.size code builtinsNs X.env) fp) elt (tE C x))
    (hs : ∀ v, genFold iter X.env v = pure v := by intro _; rfl)
    (he : starEach [.GeneratorExp elt [⟨tgx, iter, ifs, 0⟩] scope gpos] X.env = (false, eval (.GeneratorExp elt [⟨tgx, iter, ifs, 0⟩] scope gpos) X.env) :: starEach [] X.env := by rfl) :
    PE X (.Call (.Name "all" p) [.GeneratorExp elt [⟨tgx, iter, ifs, 0⟩] scope gpos] [] pos) (tE C (.mk (gnF false n g nt tg cs x) as)) := by
  subst hn
  subst has
  exact (pe_allG hr hg hm hb TB hcode S (fun σ _ => cap_of hcap σ) hi hpg hpt hpe hs he).imp fun σ H Q q => tGn_of hP (fun i hi => List.contains_iff_mem.mp (List.all_eq_true.mp hsl i hi)) q
theorem ce_anyGn (hr : Room (k + 2) X.A) (hg : Gl X "any") (hm : X.mg "any" = none) (hb : bootBuiltins "any" = some (.builtin "any")) (TB : TabB X.base X.mg c P) (hcode : X.env.code = .ref c) (hP : P ∈ C.tt) (S : GnOk N X.env.scope scope) (hcap : capOk N X.N scope nt caps = true)
    (hsl : (tg.slots.all fun i => (List.range nt).contains i) = true) (hi : PI X tgx iter (tI C g xs)) (hn : xs.length = n) (has : as = xs ++ caps.map Ex.var)
    (hpg : ∀ (s4 : Shared) (H4 : Hp) (code : Value) (fp : List Addr), PG (gnX X X.A.in1.in1 s4 H4 N (genEnv scope (cloFrom X.env.cells scope.names []) s4.heap.objs.size code builtinsNs X.env) fp) tgx (tG C tg))
    (hpt : ∀ (s4 : Shared) (H4 : Hp) (code : Value) (fp : List Addr), PTs (gnX X X.A.in1.in1 s4 H4 N (genEnv scope (cloFrom X.env.cells scope.names []) s4.heap.objs.size code builtinsNs X.env) fp) ifs (tTs C cs))
    (hpe : ∀ (s4 : Shared) (H4 : Hp) (code : Value) (fp : List Addr), PE (gnX X X.A.in1.in1 s4 H4 N (genEnv scope (cloFrom X.env.cells scope.names []) s4.heap.objs.size code builtinsNs X.env) fp) elt (tE C x))
    (hs : ∀ v, genFold iter X.env v = pure v := by intro _; rfl)
    (he : starEach [.GeneratorExp elt [⟨tgx, iter, ifs, 0⟩] scope gpos] X.env = (false, eval (.GeneratorExp elt [⟨tgx, iter, ifs, 0⟩] scope gpos) X.env) :: starEach [] X.env := by rfl) :
    PE X (.Call (.Name "any" p) [.GeneratorExp elt [⟨tgx, iter, ifs, 0⟩] scope gpos] [] pos) (tE C (.mk (gnF true n g nt tg cs x) as)) := by
  subst hn
  subst has
  exact (pe_anyG hr hg hm hb TB hcode S (fun σ _ => cap_of hcap σ) hi hpg hpt hpe hs he).imp fun σ H Q q => tGn_of hP (fun i hi => List.contains_iff_mem.mp (List.all_eq_true.mp hsl i hi)) q
theorem gnOk_at {N0 : List Str} {sc0 sc1 : Scope} (e : sc0 = sc1) (h : GnOk N0 sc1 scope) : GnOk N0 sc0 scope := e ▸ h
theorem capOk_at {N0 N1 N2 : List Str} {m : Nat} {cs2 : List Nat} (e : N1 = N2) (h : capOk N0 N2 scope m cs2 = true) : capOk N0 N1 scope m cs2 = true := e ▸ h
theorem nd_at {N1 N2 : List Str} (e : N1 = N2) (h : N2.Nodup) : N1.Nodup := e ▸ h
end
end Mi

/-! A module's name for a built-in function. -/
namespace Mi
open PySem PySem.Spec PyProof.Rows L2 GxR
section
variable {X : Cx} {C : Cfg} {a : Expr} {pos : Pos}
theorem ce_callBfun {id : String} {r : List V → Hp → VK → Prop} {f : List D → Option D} {nm : Str} {p : Pos} {es : List Expr} {xs : List Ex} (hc : CallR X (.builtin id) r) (ok : OkN C r f) (hg : Gl X nm) (hm : X.mg nm = some (.builtin id)) (ha : PA X (a :: es) (tA C xs))
    (hdb : (nm == ("__debug__" : Str)) = false := by decide)
    (he : starEach (a :: es) X.env = (false, eval a X.env) :: starEach es X.env := by rfl) (hpl : (backTo pos (starEach es X.env)).any (·.1) = false := by rfl) : PE X (.Call (.Name nm p) (a :: es) [] pos) (tE C (.op f xs)) :=
  (pe_callBfun hc hg hm ha hdb he hpl).imp fun σ H Q q => tE_op ok q
end
end Mi

/-! The order of alike data; chains of three comparisons. -/
namespace Mi
open PySem PySem.Spec PyProof.Rows L2 GxR
def rDat (K : Frag) (g : PyData → PyData → Bool) : R2 := fun x y H Q => ∃ a b : D, Dp K H x a.py ∧ Dp K H y b.py ∧ a.shp 16 = true ∧ b.shp 16 = true ∧ W.alike a.py b.py = true ∧ a.py ≠ .none ∧ Q (.bl (g a.py b.py)) H
def datF (g : D → D → Bool) : List D → Option D
  | [a, b] => if (a.same a && (a.same b && (a.shp 16 && b.shp 16))) = true then some (.bl (g a b)) else none
  | _ => none
section
variable {X : Cx} {C : Cfg}
theorem dat_go {op : CmpOp} {g : PyData → PyData → Bool} (hu : X.A.units + 64 < cLine)
    (h : ∀ {s : Shared} {a b : Value} {da db : PyData} {as bs : List Addr} {Q : Value → Shared → Prop}, Reads s.heap a da as → Reads s.heap b db bs → W.alike da db = true → da ≠ .none → X.A.units + min da.depth db.depth < cLine → Q (.bool (g da db)) s → wpAny (model X.prog X.w) X.A (compareOp op a b) Q X.xe s) : OpR X (compareOp op) (rDat X.K g) := by
  intro pins s σ H x y v u Q I rx ry ⟨a, b, ha, hb, sa, sb, al, hn, q⟩
  obtain ⟨as, ra⟩ := Dp.reads I _ _ v ha rx
  obtain ⟨bs, rb⟩ := Dp.reads I _ _ u hb ry
  have hd := (shp_can 16 a sa).2
  exact h ra rb al hn (by omega) ⟨.bl _, H, I, rfl, q⟩
theorem op_ltD (hu : X.A.units + 64 < cLine) : OpR X (compareOp .Lt) (rDat X.K fun a b => W.dataLt a b) := dat_go hu fun ra rb al hn hu hq => W.lt_data ra rb al hn hu hq
theorem op_gtD (hu : X.A.units + 64 < cLine) : OpR X (compareOp .Gt) (rDat X.K fun a b => W.dataLt b a) := dat_go hu fun ra rb al hn hu hq => W.gt_data ra rb al hn hu hq
theorem op_leD (hu : X.A.units + 64 < cLine) : OpR X (compareOp .LtE) (rDat X.K fun a b => !W.dataLt b a) := dat_go hu fun ra rb al hn hu hq => W.le_data ra rb al hn hu hq
theorem op_geD (hu : X.A.units + 64 < cLine) : OpR X (compareOp .GtE) (rDat X.K fun a b => !W.dataLt a b) := dat_go hu fun ra rb al hn hu hq => W.ge_data ra rb al hn hu hq
theorem datF_ok (hK : C.K = X.K) {g : PyData → PyData → Bool} : Ok2 C (rDat X.K g) (datF fun a b => g a.py b.py) := fun x y a b d G H Q s t r1 r2 e k => by
  unfold datF at e
  dsimp only at e
  by_cases hz : (a.same a && (a.same b && (a.shp 16 && b.shp 16))) = true
  · rw [if_pos hz] at e
    cases e
    simp only [Bool.and_eq_true] at hz
    obtain ⟨h1, h2, h3, h4⟩ := hz
    refine ⟨a, b, by rw [← hK]; exact rep_dp 16 a x h3 (r1.all s), by rw [← hK]; exact rep_dp 16 b y h4 (r2.all s), h3, h4, same_alike a a b h1 h2, ?_, res_flat s t k (.bl _)⟩
    cases a <;> simp [D.same, D.py] at h1 ⊢
  · rw [if_neg hz] at e
    cases e
theorem orF_ok2 {r r' : R2} {f g : List D → Option D} (h : Ok2 C r f) (h' : Ok2 C r' g) : Ok2 C (fun x y H Q => r x y H Q ∨ r' x y H Q) (orF f g) := fun x y a b d G H Q s t r1 r2 e k => by
  unfold orF at e
  split at e
  · rename_i w q
    cases e
    exact .inl (h x y a b _ G H Q s t r1 r2 q k)
  · exact .inr (h' x y a b d G H Q s t r1 r2 e k)
theorem datF_two {g : D → D → Bool} : Two (datF g) := fun ds d h => by
  unfold datF at h
  split at h <;> first | rfl | cases h
theorem datF_boo {g : D → D → Bool} : Boo (datF g) := fun ds d h => by
  unfold datF at h
  split at h
  · split at h
    · cases h; exact ⟨_, rfl⟩
    · cases h
  · cases h
theorem orF_two {f g : List D → Option D} (h : Two f) (h' : Two g) : Two (orF f g) := fun ds d q => by
  unfold orF at q
  split at q
  · rename_i w z
    exact h ds w z
  · exact h' ds d q
theorem orF_boo {f g : List D → Option D} (h : Boo f) (h' : Boo g) : Boo (orF f g) := fun ds d q => by
  unfold orF at q
  split at q
  · rename_i w z
    cases q
    exact h ds _ z
  · exact h' ds d q
abbrev ltG := orF ltF (datF fun a b => W.dataLt a.py b.py)
abbrev gtG := orF gtF (datF fun a b => W.dataLt b.py a.py)
abbrev leG := orF leF (datF fun a b => !W.dataLt b.py a.py)
abbrev geG := orF geF (datF fun a b => !W.dataLt a.py b.py)
theorem cmpG_two {f g} : Two (orF (cmpF f g) (datF h)) := orF_two cmpF_two datF_two
theorem cmpG_boo {f g} : Boo (orF (cmpF f g) (datF h)) := orF_boo cmpF_boo datF_boo
theorem ltG_ok (hK : C.K = X.K) : Ok2 C (fun x y H Q => rCmpA (fun i j => decide (i < j)) (fun a b => decide (a < b)) x y H Q ∨ rDat X.K (fun a b => W.dataLt a b) x y H Q) ltG := orF_ok2 cmpF_ok (datF_ok hK)
theorem gtG_ok (hK : C.K = X.K) : Ok2 C (fun x y H Q => rCmpA (fun i j => decide (j < i)) (fun a b => decide (b < a)) x y H Q ∨ rDat X.K (fun a b => W.dataLt b a) x y H Q) gtG := orF_ok2 cmpF_ok (datF_ok hK (g := fun a b => W.dataLt b a))
theorem leG_ok (hK : C.K = X.K) : Ok2 C (fun x y H Q => rCmpA (fun i j => decide (i ≤ j)) (fun a b => !decide (b < a)) x y H Q ∨ rDat X.K (fun a b => !W.dataLt b a) x y H Q) leG := orF_ok2 cmpF_ok (datF_ok hK (g := fun a b => !W.dataLt b a))
theorem geG_ok (hK : C.K = X.K) : Ok2 C (fun x y H Q => rCmpA (fun i j => decide (j ≤ i)) (fun a b => !decide (a < b)) x y H Q ∨ rDat X.K (fun a b => !W.dataLt a b) x y H Q) geG := orF_ok2 cmpF_ok (datF_ok hK (g := fun a b => !W.dataLt a b))
theorem op_ltG (hu : X.A.units + 64 < cLine) : OpR X (compareOp .Lt) (fun x y H Q => rCmpA (fun i j => decide (i < j)) (fun a b => decide (a < b)) x y H Q ∨ rDat X.K (fun a b => W.dataLt a b) x y H Q) := op_ltA.or (op_ltD hu)
theorem op_gtG (hu : X.A.units + 64 < cLine) : OpR X (compareOp .Gt) (fun x y H Q => rCmpA (fun i j => decide (j < i)) (fun a b => decide (b < a)) x y H Q ∨ rDat X.K (fun a b => W.dataLt b a) x y H Q) := op_gtA.or (op_gtD hu)
theorem op_leG (hu : X.A.units + 64 < cLine) : OpR X (compareOp .LtE) (fun x y H Q => rCmpA (fun i j => decide (i ≤ j)) (fun a b => !decide (b < a)) x y H Q ∨ rDat X.K (fun a b => !W.dataLt b a) x y H Q) := op_leA.or (op_leD hu)
theorem op_geG (hu : X.A.units + 64 < cLine) : OpR X (compareOp .GtE) (fun x y H Q => rCmpA (fun i j => decide (j ≤ i)) (fun a b => !decide (a < b)) x y H Q ∨ rDat X.K (fun a b => !W.dataLt a b) x y H Q) := op_geA.or (op_geD hu)
end
end Mi

/-! Chains of three comparisons. -/
namespace Mi
open PySem PySem.Spec PyProof.Rows L2 GxR
section
variable {X : Cx} {C : Cfg} {a b c d : Expr} {pos : Pos} {x y z w : Ex} {ta tb tc td : TE}
def tChain3 (r r' r'' : R2) (ta tb tc td : TE) : TE := fun σ H Q => ta σ H fun x H1 => tb σ H1 fun y H2 => r x y H2 fun z H3 => ∃ k, z = .bl k ∧
  (if k = true then tc σ H3 fun w' H4 => r' y w' H4 fun z2 H5 => ∃ k2, z2 = .bl k2 ∧ (if k2 = true then td σ H5 fun u' H6 => r'' w' u' H6 Q else Q (.bl false) H5) else Q (.bl false) H3)
theorem pe_chain3 {op op' op'' : CmpOp} {r r' r'' : R2} (ho : OpR X (compareOp op) r) (ho' : OpR X (compareOp op') r') (ho'' : OpR X (compareOp op'') r'') (ha : PE X a ta) (hb : PE X b tb) (hc : PE X c tc) (hd : PE X d td)
    (hm : lastMarks [op, op', op''] [b, c, d] = false := by with_unfolding_all rfl) : PE X (.Compare a [op, op', op''] [b, c, d] pos) (tChain3 r r' r'' ta tb tc td) := by
  refine ⟨fun pins s σ H Q I h => ?_⟩
  refine Compare_chain (thn (ha.run pins s σ H _ I h) fun v s1 ⟨x, H1, I1, r1, q1⟩ => chain_link (thn (hb.run pins s1 σ H1 _ I1 q1) fun u s2 ⟨y, H2, I2, r2, q2⟩ =>
    thn (ho pins s2 σ H2 x y v u _ I2 r1 r2 q2) fun d s3 ⟨z, H3, I3, r3, k, e, q3⟩ => ?_)) hm
  subst e
  cases r3
  refine wpAny_truthy_bool ?_
  cases k with
  | false => exact ite_ff ⟨.bl false, H3, I3, rfl, q3⟩
  | true =>
    refine ite_tt (chain_link (thn (hc.run pins s3 σ H3 _ I3 q3) fun w' s4 ⟨z', H4, I4, r4, q4⟩ => thn (ho' pins s4 σ H4 y z' u w' _ I4 r2 r4 q4) fun d' s5 ⟨z2, H5, I5, r5, k2, e2, q5⟩ => ?_))
    subst e2
    cases r5
    refine wpAny_truthy_bool ?_
    cases k2 with
    | false => exact ite_ff ⟨.bl false, H5, I5, rfl, q5⟩
    | true => exact ite_tt (chain_last (thn (hd.run pins s5 σ H5 _ I5 q5) fun u' s6 ⟨z3, H6, I6, r6, q6⟩ => ho'' pins s6 σ H6 z' z3 w' u' Q I6 r4 r6 q6))
theorem ev_chain3 {f g h : List D → Option D} {e e' : Env'} {r : Rv} (he : ev (.chain3 f g h x y z w) e = some (r, e')) :
    ∃ ra e1 rb e2 ds, ev x e = some (ra, e1) ∧ ev y e1 = some (rb, e2) ∧ gets e2 [ra, rb] = some ds ∧
      ((f ds = some (.bl false) ∧ r = .pers (.bl false) ∧ e' = e2) ∨ (f ds = some (.bl true) ∧ ∃ rc e3 ds2, ev z e2 = some (rc, e3) ∧ gets e3 [rb, rc] = some ds2 ∧
        ((g ds2 = some (.bl false) ∧ r = .pers (.bl false) ∧ e' = e3) ∨ (g ds2 = some (.bl true) ∧ ∃ rd ds3 d, ev w e3 = some (rd, e') ∧ gets e' [rc, rd] = some ds3 ∧ h ds3 = some d ∧ r = .pers d)))) := by
  unfold ev at he
  split at he
  · rename_i ra e1 q1
    split at he
    · rename_i rb e2 q2
      split at he
      · rename_i ds q3
        split at he
        · rename_i q4
          split at he
          · rename_i rc e3 q5
            split at he
            · rename_i ds2 q6
              split at he
              · rename_i q7
                split at he
                · rename_i rd e4 q8
                  split at he
                  · rename_i ds3 q9
                    split at he
                    · rename_i d q10
                      cases he
                      exact ⟨ra, e1, rb, e2, ds, q1, q2, q3, .inr ⟨q4, rc, e3, ds2, q5, q6, .inr ⟨q7, rd, ds3, d, q8, q9, q10, rfl⟩⟩⟩
                    · cases he
                  · cases he
                · cases he
              · rename_i q7
                cases he
                exact ⟨ra, e1, rb, e2, ds, q1, q2, q3, .inr ⟨q4, rc, _, ds2, q5, q6, .inl ⟨q7, rfl, rfl⟩⟩⟩
              · cases he
            · cases he
          · cases he
        · rename_i q4
          cases he
          exact ⟨ra, e1, rb, _, ds, q1, q2, q3, .inl ⟨q4, rfl, rfl⟩⟩
        · cases he
      · cases he
    · cases he
  · cases he
theorem tChain3_of {r r' r'' : R2} {f g h : List D → Option D} (ok : Ok2 C r f) (ok' : Ok2 C r' g) (ok'' : Ok2 C r'' h) {σ : St} {H : Hp} {Q : VK} (q : tE C (.chain3 f g h x y z w) σ H Q) : tChain3 r r' r'' (tE C x) (tE C y) (tE C z) (tE C w) σ H Q := by
  obtain ⟨F, G0, G, pn, e, rr, e', R, he, k⟩ := q
  obtain ⟨ra, e1, rb, e2, ds, q1, q2, q3, q4⟩ := ev_chain3 he
  refine ⟨F, G0, G, pn, e, ra, e1, R, q1, fun v G1 H1 R1 s1 rv => ⟨F, G0, G1, pn, e1, rb, e2, R1, q2, fun w G2 H2 R2 s2 rw' => ?_⟩⟩
  obtain ⟨da, db, rfl, ga, gb⟩ := gets2 q3
  have rv2 := (rv.mono s2).env (ev_kept y _ _ _ q2).1
  rcases q4 with ⟨hf, rfl, rfl⟩ | ⟨hf, rc, e3, ds2, q5, q6, q7⟩
  · refine ok v w da db _ G2 H2 _ R2.gh R2.tabs (R2.get rv2 ga) (R2.get rw' gb) hf fun u G3 H3 gr ru => ?_
    cases ru
    exact ⟨false, rfl, iteF (k (.bl false) G3 H3 (R2.grow gr) ((s1.trans s2).trans gr.gg) (.bl false))⟩
  · refine ok v w da db _ G2 H2 _ R2.gh R2.tabs (R2.get rv2 ga) (R2.get rw' gb) hf fun u G3 H3 gr ru => ?_
    cases ru
    refine ⟨true, rfl, iteT ⟨F, G0, G3, pn, e2, rc, e3, R2.grow gr, q5, fun u2 G4 H4 R4 s4 ru2 => ?_⟩⟩
    obtain ⟨db2, dc, rfl, gb2, gc⟩ := gets2 q6
    have rw2 := (rw'.mono (gr.gg.trans s4)).env (ev_kept z _ _ _ q5).1
    rcases q7 with ⟨hg, rfl, rfl⟩ | ⟨hg, rd, ds3, d, q8, q9, q10, rfl⟩
    · refine ok' w u2 db2 dc _ G4 H4 _ R4.gh R4.tabs (R4.get rw2 gb2) (R4.get ru2 gc) hg fun u3 G5 H5 gr5 ru3 => ?_
      cases ru3
      exact ⟨false, rfl, iteF (k (.bl false) G5 H5 (R4.grow gr5) ((((s1.trans s2).trans gr.gg).trans s4).trans gr5.gg) (.bl false))⟩
    · refine ok' w u2 db2 dc _ G4 H4 _ R4.gh R4.tabs (R4.get rw2 gb2) (R4.get ru2 gc) hg fun u3 G5 H5 gr5 ru3 => ?_
      cases ru3
      refine ⟨true, rfl, iteT ⟨F, G0, G5, pn, e3, rd, e', R4.grow gr5, q8, fun u4 G6 H6 R6 s6 ru4 => ?_⟩⟩
      obtain ⟨dc2, dd, rfl, gc2, gd⟩ := gets2 q9
      have rc2 := (ru2.mono (gr5.gg.trans s6)).env (ev_kept _ _ _ _ q8).1
      exact ok'' u2 u4 dc2 dd d G6 H6 Q R6.gh R6.tabs (R6.get rc2 gc2) (R6.get ru4 gd) q10 fun u5 G7 H7 gr7 ru5 => k u5 G7 H7 (R6.grow gr7) ((((((s1.trans s2).trans gr.gg).trans s4).trans gr5.gg).trans s6).trans gr7.gg) ru5
theorem ce_chain3 {op op' op'' : CmpOp} {r r' r'' : R2} {f g h : List D → Option D} (ho : OpR X (compareOp op) r) (ho' : OpR X (compareOp op') r') (ho'' : OpR X (compareOp op'') r'') (ok : Ok2 C r f) (ok' : Ok2 C r' g) (ok'' : Ok2 C r'' h) (ha : PE X a (tE C x)) (hb : PE X b (tE C y)) (hc : PE X c (tE C z)) (hd : PE X d (tE C w))
    (hm : lastMarks [op, op', op''] [b, c, d] = false := by with_unfolding_all rfl) : PE X (.Compare a [op, op', op''] [b, c, d] pos) (tE C (.chain3 f g h x y z w)) := (pe_chain3 ho ho' ho'' ha hb hc hd hm).imp fun σ H Q q => tChain3_of ok ok' ok'' q
/-- a chain as a test -/
theorem ct_chain3 {op op' op'' : CmpOp} {r r' r'' : R2} {f g h : List D → Option D} (ho : OpR X (compareOp op) r) (ho' : OpR X (compareOp op') r') (ho'' : OpR X (compareOp op'') r'') (ok : Ok2 C r f) (ok' : Ok2 C r' g) (ok'' : Ok2 C r'' h) (bh : Boo h) (ha : PE X a (tE C x)) (hb : PE X b (tE C y)) (hc : PE X c (tE C z)) (hd : PE X d (tE C w)) (hK : C.K = X.K)
    (hm : lastMarks [op, op', op''] [b, c, d] = false := by with_unfolding_all rfl) : PT X (.Compare a [op, op', op''] [b, c, d] pos) (tT C (.chain3 f g h x y z w)) := by
  refine ⟨fun pins s σ H Q I q => ?_⟩
  have q := tTest_of (C := C) (x := .chain3 f g h x y z w) (fun Q q => tChain3_of ok ok' ok'' q) (fun e r e' he => by
    obtain ⟨ra, e1, rb, e2, ds, q1, q2, q3, q4⟩ := ev_chain3 he
    rcases q4 with ⟨_, rfl, _⟩ | ⟨_, rc, e3, ds2, _, _, q7⟩
    · exact ⟨false, rfl⟩
    · rcases q7 with ⟨_, rfl, _⟩ | ⟨_, rd, ds3, d, _, _, q10, rfl⟩
      · exact ⟨false, rfl⟩
      · obtain ⟨k, rfl⟩ := bh ds3 d q10
        exact ⟨k, rfl⟩) q
  refine isTrue_chain (thn (ha.run pins s σ H _ I q) fun v s1 ⟨x, H1, I1, r1, q1⟩ => test_link (thn (hb.run pins s1 σ H1 _ I1 q1) fun u s2 ⟨y, H2, I2, r2, q2⟩ =>
    thn (ho pins s2 σ H2 x y v u _ I2 r1 r2 q2) fun d s3 ⟨z, H3, I3, r3, k, e, q3⟩ => ?_)) hm
  subst e
  cases r3
  refine wpAny_truthy_bool ?_
  cases k with
  | false =>
    obtain ⟨k', e', q'⟩ := q3
    cases e'
    exact ite_ff ⟨H3, I3, q'⟩
  | true =>
    refine ite_tt (test_link (thn (hc.run pins s3 σ H3 _ I3 q3) fun w' s4 ⟨z', H4, I4, r4, q4⟩ => thn (ho' pins s4 σ H4 y z' u w' _ I4 r2 r4 q4) fun d' s5 ⟨z2, H5, I5, r5, k2, e2, q5⟩ => ?_))
    subst e2
    cases r5
    refine wpAny_truthy_bool ?_
    cases k2 with
    | false =>
      obtain ⟨k', e', q'⟩ := q5
      cases e'
      exact ite_ff ⟨H5, I5, q'⟩
    | true =>
      refine ite_tt (test_last (thn (hd.run pins s5 σ H5 _ I5 q5) fun u' s6 ⟨z3, H6, I6, r6, q6⟩ => thn (ho'' pins s6 σ H6 z' z3 w' u' _ I6 r4 r6 q6) fun d'' s7 ⟨z4, H7, I7, r7, k3, e3, q7⟩ => ?_))
      subst e3
      cases r7
      exact wpAny_truthy_bool ⟨H7, I7, q7⟩
end
end Mi

/-! The head of a text that fetches from a module: the opening is run in the kernel, too. -/
noncomputable section
namespace Mi.Imp
open PySem PySem.W PySem.Calls PyProof.Rows HandSHeadRun
/-- the opening, to its end -/
def impF (st : SharedT → Thread → Option (SharedT × Thread)) : Nat → SharedT → Thread → Option SharedT
  | 0, _, _ => none
  | m + 1, s, t => match t.atExitBegin with
    | some [] => some s
    | some (_ :: _) => none
    | none => match st s t with
      | some (s', t') => frS s' fun s' => impF st m s' t'
      | none => none
theorem impF_ok {tb : String → Option Builtin} {p : Program} {w : World} : ∀ {m : Nat} {s s' : SharedT} {t : Thread}, impF (stepT (denote tb) p w) m s t = some s' → importEnds tb p w m s.abs t = some s'.abs
  | 0, _, _, _, h => by cases h
  | m + 1, s, s', t, h => by
    have h1 : (match t.atExitBegin with
      | some [] => some s
      | some (_ :: _) => none
      | none => match stepT (denote tb) p w s t with
        | some (s', t') => frS s' fun s' => impF (stepT (denote tb) p w) m s' t'
        | none => none) = some s' := h
    unfold importEnds
    cases ht : t.atExitBegin with
    | some l =>
      rw [ht] at h1
      cases l with
      | nil => cases h1; rfl
      | cons a l => cases h1
    | none =>
      rw [ht] at h1
      have h2 : (match stepT (denote tb) p w s t with
        | some (s', t') => frS s' fun s' => impF (stepT (denote tb) p w) m s' t'
        | none => none) = some s' := h1
      cases hs : stepT (denote tb) p w s t with
      | none =>
        rw [hs] at h2
        cases h2
      | some r =>
        obtain ⟨s2, t2⟩ := r
        rw [hs] at h2
        have h3 : (frS s2 fun s' => impF (stepT (denote tb) p w) m s' t2) = some s' := h2
        rw [frS_eq] at h3
        have q := impF_ok h3
        show (match step (denote tb) p w s.abs t with
          | .go s' t' => importEnds tb p w m s' t'
          | .halt _ _ => none) = some s'.abs
        rw [stepT_spec hs]
        exact q
/-- where all begins -/
def startT (p : Program) : SharedT := ⟨.nil, 0, ({} : Life), #[], {}, 1, { stdin := p.given.stdin.toArray }⟩
theorem startT_abs (p : Program) : (startT p).abs = (start p).1 := rfl
def endM (so st : SharedT → Thread → Option (SharedT × Thread)) (M0 M : Nat) (p : Program) : Option (Shared × SharedT) :=
  (impF so M0 (startT (opening p)) (start (opening p)).2).bind fun z => (fenceModules? p z.abs).bind fun s0 => match putAll s0.heap.objs.toList .nil 0 with
    | some (t, n) => (frNat n fun n0 => goF st n0 (s0.heap.nsMap mainGlobals "__annotations__") M ⟨t, n0, s0.heap.life, s0.gens, s0.drawn, s0.toks, s0.os⟩ (topStub p)).map fun s1 => (s0, s1)
    | none => none
theorem left_imp {p q : Program} {loose : List Str} {Xt : Shared → Bool} {α : Type} {Yf : Shared → α} {Ya : World → α} {M0 M : Nat}
    (run : ∀ (w : World), (endM (stepT (denote treeTable) (opening p) w) (stepT (denote treeTable) p w) M0 M p).map (fun z => ((z.1.heap.isNs mainGlobals && z.1.gens.size == 0) && looksF p z.1.heap z.2.abs, openSeen q loose (importedModules p.main.body) Xt true z.2.abs, Yf z.2.abs)) = some (true, openGood q loose, Ya w)) :
    LeftO p q loose Xt Yf Ya (M0 + M) true := fun w => by
  obtain ⟨⟨s0, s1⟩, hs, hv⟩ := Option.map_eq_some_iff.mp (run w)
  obtain ⟨l1, l2, l3⟩ : _ ∧ _ ∧ _ := by simpa only [Prod.mk.injEq] using hv
  unfold endM at hs
  obtain ⟨z, hz, hs⟩ := Option.bind_eq_some_iff.mp hs
  obtain ⟨s0', h0, hs⟩ := Option.bind_eq_some_iff.mp hs
  cases e : putAll s0'.heap.objs.toList .nil 0 with
  | none => rw [e] at hs; cases hs
  | some r =>
    obtain ⟨t, n⟩ := r
    rw [e] at hs
    have hs : (frNat n fun n0 => goF (stepT (denote treeTable) p w) n0 (s0'.heap.nsMap mainGlobals "__annotations__") M ⟨t, n0, s0'.heap.life, s0'.gens, s0'.drawn, s0'.toks, s0'.os⟩ (topStub p)).map (fun s1 => (s0', s1)) = some (s0, s1) := hs
    obtain ⟨s1', hg, he⟩ := Option.map_eq_some_iff.mp hs
    obtain ⟨rfl, rfl⟩ : s0' = s0 ∧ s1' = s1 := by simpa only [Prod.mk.injEq] using he
    rw [frNat_eq] at hg
    have q := goF_ok hg
    have eh := putAll_heap e
    have en : s0'.heap.objs.size = n := by
      rw [← eh]
      exact absHeap_size t n _
    have eb : (⟨t, n, s0'.heap.life, s0'.gens, s0'.drawn, s0'.toks, s0'.os⟩ : SharedT).abs = s0' := by
      show (⟨absHeap t n s0'.heap.life, s0'.gens, s0'.drawn, s0'.toks, s0'.os⟩ : Shared) = _
      rw [eh]
    rw [eb, ← en] at q
    obtain ⟨c1, c2⟩ := Bool.and_eq_true_iff.mp l1
    have r := topRun_mono M0 _ _ _ _ q
    rw [Nat.add_comm M M0] at r
    have i := importEnds_mono M _ _ _ _ (impF_ok hz)
    rw [startT_abs] at i
    have tf : topFrom treeTable p w (M0 + M) s0' = some s1'.abs := by
      unfold topFrom
      rw [c1]
      show (topRun treeTable p w s0'.heap.objs.size (s0'.heap.nsMap mainGlobals "__annotations__") (M0 + M) s0' (topStub p)).bind _ = _
      rw [r]
      show (match staticsOk (importedModules p.main.body) s0'.heap s1'.abs.heap && namesBound p s1'.abs.heap && gensDone s1'.abs && laidKept s0'.heap s1'.abs.heap with | true => some s1'.abs | false => none) = _
      have c2' : (staticsOk (importedModules p.main.body) s0'.heap s1'.abs.heap && namesBound p s1'.abs.heap && gensDone s1'.abs && laidKept s0'.heap s1'.abs.heap) = true := c2
      rw [c2']
    unfold openEnds fencedOpening
    rw [i]
    show ((fenceModules? p z.abs).bind _).map _ = _
    rw [h0]
    show (topFrom treeTable p w (M0 + M) s0').map _ = _
    rw [tf]
    exact congrArg some (Prod.ext l2 l3)
/-- the run's equation at a world -/
def RunM (r : OpenRow) (q : Program) (H : Hook) (ob : SharedT → H.α) (M0 M : Nat) (loose : List PySem.Str) (w : World) : Prop :=
  (endM (stepQ (denQ tabQ) (opening r.prog) w) (stepQ (denQ tabQ) r.prog w) M0 M r.prog).map (fun z => ((z.1.heap.isNs mainGlobals && z.1.gens.size == 0) && looksF r.prog z.1.heap z.2.abs, seenQ q loose (importedModules r.prog.main.body) (fun s => xlAt q [] s && recOk r.toRowW.records s) z.2.abs, ob z.2)) = some (true, openGood q loose, H.val w)
theorem head_imp {r : OpenRow} {q : Program} {H : Hook} {ob : SharedT → H.α} {M0 M : Nat} {loose : List PySem.Str} {d : DefRec} {kwd : List (PySem.Str × PySem.Expr)} (ho : ∀ s : SharedT, ob s = H.obs s.abs)
    (run : ∀ w, RunM r q H ob M0 M loose w)
    (hdef : defOf q r.name = some (d, kwd)) (hp : r.prog.theDef r.name = some (d.params, d.body, d.scope)) (hk : kwWritten? d.params.kwonlyargs d.params.kw_defaults = some kwd)
    (hwr : (!r.writes || r.records.isEmpty) = true) (k1 : r.wellSaid = true) (ok : (chainsOk q && opensWell r.prog && (frees r.toRowW && r.within.isEmpty)) = true) (hb : r.prog.bare) (hw : r.toRowW.promised)
    (call : WalkO q loose (XL q []) H.says r.toRowW d kwd fun f vs => PySem.call f vs) : r.Holds := by
  have left : LeftO r.prog q loose (fun s => xlAt q [] s && recOk r.toRowW.records s) H.obs H.val (M0 + M) true :=
    left_imp (M0 := M0) (M := M) fun w => by
      have z := run w
      unfold RunM at z
      have eo : ob = fun s => H.obs s.abs := funext ho
      rw [eo] at z
      rw [stepQ_eq, denQ_eq, tabQ_eq]
      simp only [seenQ_eq]
      exact z
  exact holds_open (r := r) (q := q) (loose := loose) (XP := XL q []) (YP := H.says) (d := d) (kwd := kwd) left H.of H.keeps (fun s z => xl_of s (Bool.and_eq_true_iff.mp z).1) XL.keeps hdef hp hk (fun s z => recFacts_of (Bool.and_eq_true_iff.mp z).2) hwr k1 ok hb hw call
end Mi.Imp

/-! Dicts: places read, stored, in, len, get. Keys: numbers and texts, or tuples of them (then the row of keys begins with .non). -/
namespace Mi
open PySem PySem.Spec PyProof.Rows L2 GxR
def keyK : D → Bool
  | .int _ => true
  | .str _ => true
  | _ => false
def keyT : D → Bool
  | .tup l => l.all keyK
  | _ => false
/-- are the keys tuples -/
def isTK : List D → Bool
  | .non :: _ => true
  | _ => false
/-- the keys themselves -/
def keysD : List D → List D
  | .non :: ks => ks
  | ks => ks
def keyB (ks : List D) (k : D) : Bool := if isTK ks then keyT k else keyK k
def lookD (ks vs : List D) (x : D) : Option D := ((ks.zip vs).find? fun p => p.1.eqv x).map (·.2)
def putKs (ks : List D) (x : D) : List D := if ks.any (fun k => k.eqv x) then ks else ks ++ [x]
def putVs (ks vs : List D) (x y : D) : List D := if ks.any (fun k => k.eqv x) then (ks.zip vs).map (fun p => if p.1.eqv x then y else p.2) else vs ++ [y]
/-- the row of keys of that kind -/
def rowK (t : Bool) (ks : List D) : List D := if t then .non :: ks else ks
def keyTD (l : List Key) : D := .tup (l.map keyD)
theorem keyD_non (k : Key) : keyD k ≠ .non := by cases k <;> exact fun z => nomatch z
theorem isTK_K {κ : Type} {kvs : List (Key × κ)} : isTK (kvs.map fun q => keyD q.1) = false ∧ keysD (kvs.map fun q => keyD q.1) = kvs.map fun q => keyD q.1 := by
  cases kvs with
  | nil => exact ⟨rfl, rfl⟩
  | cons p kvs =>
    obtain ⟨k, v⟩ := p
    cases k <;> exact ⟨rfl, rfl⟩
theorem eqv_keyD : ∀ a b : Key, (keyD a).eqv (keyD b) = decide (a = b)
  | .inl i, .inl j => by
    show (D.int i).eqv (.int j) = _
    simp only [D.eqv]
    rw [Bool.eq_iff_iff]
    simp
  | .inl i, .inr y => by
    show (D.int i).eqv (.str _) = _
    simp [D.eqv]
  | .inr x, .inl j => by
    show (D.str _).eqv (.int j) = _
    simp [D.eqv]
  | .inr x, .inr y => by
    show (D.str _).eqv (.str _) = _
    simp only [D.eqv]
    rw [Bool.eq_iff_iff]
    simp only [beq_iff_eq, decide_eq_true_eq, Sum.inr.injEq]
    constructor
    · intro e
      obtain ⟨x⟩ := x
      obtain ⟨y⟩ := y
      congr 1
      exact Array.toList_inj.mp e
    · intro e
      rw [e]
theorem eqv_keyL : ∀ a b : List Key, D.eqvL (a.map keyD) (b.map keyD) = decide (a = b)
  | [], [] => by simp [D.eqvL]
  | [], y :: b => by simp [D.eqvL]
  | x :: a, [] => by simp [D.eqvL]
  | x :: a, y :: b => by
    rw [List.map_cons, List.map_cons]
    simp only [D.eqvL]
    rw [eqv_keyD, eqv_keyL a b, Bool.eq_iff_iff]
    simp
theorem eqv_keyTD (a b : List Key) : (keyTD a).eqv (keyTD b) = decide (a = b) := by
  unfold keyTD
  simp only [D.eqv]
  exact eqv_keyL a b
section
variable {K : Frag} {G H : Hp}
theorem lookD_pos {k x d : D} {ks vs : List D} (h : k.eqv x = true) : lookD (k :: ks) (d :: vs) x = some d := by
  unfold lookD
  rw [List.zip_cons_cons, List.find?_cons_of_pos (p := fun p : D × D => p.1.eqv x) (a := (k, d)) h]
  rfl
theorem lookD_neg {k x d : D} {ks vs : List D} (h : k.eqv x = false) : lookD (k :: ks) (d :: vs) x = lookD ks vs x := by
  unfold lookD
  rw [List.zip_cons_cons, List.find?_cons_of_neg (p := fun p : D × D => p.1.eqv x) (a := (k, d)) (by simp [h])]
theorem look_rep {κ : Type} [DecidableEq κ] {f : κ → D} (hf : ∀ a b, (f a).eqv (f b) = decide (a = b)) (k : κ) : ∀ {kvs : List (κ × V)} {vs : List D}, RepL K G (kvs.map (·.2)) vs →
    match lookD (kvs.map fun q => f q.1) vs (f k) with
    | some d => ∃ v, valV kvs k = some v ∧ Rep K G v d
    | none => valV kvs k = none
  | [], vs, h => by
    cases h
    exact rfl
  | p :: kvs, vs, h => by
    rw [List.map_cons] at h
    cases h with
    | cons a b =>
      rename_i d ds
      have ih := look_rep hf k b
      rw [List.map_cons]
      by_cases hk : p.1 = k
      · rw [lookD_pos (by rw [hf]; exact decide_eq_true hk)]
        exact ⟨p.2, valV_pos hk, a⟩
      · rw [lookD_neg (by rw [hf]; exact decide_eq_false hk), valV_neg hk]
        exact ih
theorem look_some {κ : Type} [DecidableEq κ] {f : κ → D} (hf : ∀ a b, (f a).eqv (f b) = decide (a = b)) {k : κ} {kvs : List (κ × V)} {vs : List D} {d : D} (h : RepL K G (kvs.map (·.2)) vs) (e : lookD (kvs.map fun q => f q.1) vs (f k) = some d) :
    ∃ v, valV kvs k = some v ∧ Rep K G v d := by
  have q := look_rep hf k h
  rw [e] at q
  exact q
theorem look_is {κ : Type} [DecidableEq κ] {f : κ → D} (hf : ∀ a b, (f a).eqv (f b) = decide (a = b)) {k : κ} {kvs : List (κ × V)} {vs : List D} (h : RepL K G (kvs.map (·.2)) vs) :
    (valV kvs k).isSome = (lookD (kvs.map fun q => f q.1) vs (f k)).isSome := by
  have q := look_rep hf k h
  cases e : lookD (kvs.map fun q => f q.1) vs (f k) with
  | none => rw [e] at q; rw [q]; rfl
  | some d => rw [e] at q; obtain ⟨v, q, _⟩ := q; rw [q]; rfl
theorem any_key {κ : Type} [DecidableEq κ] {f : κ → D} (hf : ∀ a b, (f a).eqv (f b) = decide (a = b)) (k : κ) (kvs : List (κ × V)) : ((kvs.map fun q => f q.1).any fun z => z.eqv (f k)) = kvs.any fun kv => decide (kv.1 = k) := by
  rw [List.any_map]
  congr 1
  funext p
  exact hf p.1 k
theorem put_keys {κ : Type} [DecidableEq κ] {f : κ → D} (hf : ∀ a b, (f a).eqv (f b) = decide (a = b)) (k : κ) (v : V) (kvs : List (κ × V)) : putKs (kvs.map fun q => f q.1) (f k) = (putK kvs k v).map fun q => f q.1 := by
  unfold putKs putK
  rw [any_key hf]
  by_cases h : (kvs.any fun kv => decide (kv.1 = k)) = true
  · rw [if_pos h, if_pos h, List.map_map]
    refine List.map_congr_left fun p _ => ?_
    show f p.1 = f (if p.1 = k then (p.1, v) else p).1
    split <;> rfl
  · rw [if_neg h, if_neg h, List.map_append]
    rfl
theorem put_rep {κ : Type} [DecidableEq κ] {f : κ → D} (hf : ∀ a b, (f a).eqv (f b) = decide (a = b)) (k : κ) {v : V} {d : D} (rv : Rep K G v d) {kvs : List (κ × V)} {vs : List D} (h : RepL K G (kvs.map (·.2)) vs) :
    RepL K G ((putK kvs k v).map (·.2)) (putVs (kvs.map fun q => f q.1) vs (f k) d) := by
  unfold putVs putK
  rw [any_key hf]
  by_cases hc : (kvs.any fun kv => decide (kv.1 = k)) = true
  · rw [if_pos hc, if_pos hc]
    clear hc
    induction kvs generalizing vs with
    | nil => cases h; exact .nil
    | cons p kvs ih =>
      rw [List.map_cons] at h
      cases h with
      | cons a b =>
        rename_i d0 ds
        rw [List.map_cons, List.map_cons, List.map_cons, List.zip_cons_cons, List.map_cons]
        refine .cons ?_ (ih b)
        show Rep K G (if p.1 = k then (p.1, v) else p).2 (if (f p.1).eqv (f k) = true then d else d0)
        rw [hf]
        by_cases hk : p.1 = k
        · rw [if_pos hk, if_pos (decide_eq_true hk)]
          exact rv
        · rw [if_neg hk, if_neg (by rw [decide_eq_false hk]; simp)]
          exact a
  · rw [if_neg hc, if_neg hc, List.map_append]
    exact h.append (.cons rv .nil)
theorem keyK_rep {y : V} {kd : D} (h : keyK kd = true) (r : Rep K G y kd) : ∃ k : Key, kd = keyD k ∧ y = kV k := by
  cases r with
  | int i => exact ⟨.inl i, rfl, rfl⟩
  | str s => exact ⟨.inr ⟨s.toArray⟩, by show D.str s = D.str _; simp, rfl⟩
  | non => cases h
  | bl b => cases h
  | tup _ _ => cases h
  | lst _ _ => cases h
  | scr _ => cases h
  | dK _ _ _ => cases h
  | dT _ _ _ => cases h
theorem keyL_rep : ∀ {xs : List V} {ds : List D}, ds.all keyK = true → RepL K G xs ds → ∃ ks : List Key, ds = ks.map keyD ∧ xs = ks.map kV
  | _, _, _, .nil => ⟨[], rfl, rfl⟩
  | _, _, h, .cons a b => by
    rw [List.all_cons, Bool.and_eq_true] at h
    obtain ⟨k, rfl, rfl⟩ := keyK_rep h.1 a
    obtain ⟨ks, rfl, rfl⟩ := keyL_rep h.2 b
    exact ⟨k :: ks, rfl, rfl⟩
theorem keyT_rep {y : V} {kd : D} (h : keyT kd = true) (r : Rep K G y kd) : ∃ (ks : List Key) (b : Addr), kd = keyTD ks ∧ y = .ref b ∧ G b = some (.tup (ks.map kV)) := by
  cases r with
  | tup q rr =>
    obtain ⟨ks, rfl, rfl⟩ := keyL_rep h rr
    exact ⟨ks, _, rfl, rfl, q⟩
  | int i => cases h
  | str s => cases h
  | non => cases h
  | bl b => cases h
  | lst _ _ => cases h
  | scr _ => cases h
  | dK _ _ _ => cases h
  | dT _ _ _ => cases h
/-- what a dict holds at a key -/
theorem dget_of {x y : V} {ks vs : List D} {kd : D} (s : Same G H) (r1 : RepT K G H x (.dic ks vs)) (r2 : Rep K G y kd) (hk : keyB ks kd = true) :
    ∃ (a : Addr) (o : Option V), x = .ref a ∧ DGet H a y o ∧ o.isSome = (lookD (keysD ks) vs kd).isSome ∧ ∀ d, lookD (keysD ks) vs kd = some d → ∃ v, o = some v ∧ Rep K G v d := by
  unfold keyB at hk
  cases r1 with
  | dK q e rr =>
    rename_i a kvs
    subst e
    rw [isTK_K.1] at hk
    rw [isTK_K.2]
    obtain ⟨k, rfl, rfl⟩ := keyK_rep hk r2
    exact ⟨a, _, rfl, .inl ⟨kvs, k, q, rfl, rfl⟩, look_is eqv_keyD rr, fun d hd => look_some eqv_keyD rr hd⟩
  | dT q e rr =>
    rename_i a kvs
    subst e
    obtain ⟨k, b, rfl, rfl, hb⟩ := keyT_rep hk r2
    exact ⟨a, _, rfl, .inr ⟨kvs, k, b, q, rfl, s _ _ hb, rfl⟩, look_is eqv_keyTD rr, fun d hd => look_some eqv_keyTD rr hd⟩
end
section
variable {X : Cx} {C : Cfg} {F G0 G H : Hp} {pn : Option (Nat × Addr)} {σ : St} {e e' : Env'} {a b c o ex1 ex2 : Expr} {x y z : Ex} {pos apos cpos : Pos} {st : Stmt}
/-! ### d[k] -/
def dgetF : List D → Option D
  | [.dic ks vs, k] => if keyB ks k then lookD (keysD ks) vs k else none
  | _ => none
theorem keyB_flat {G' : Hp} {ks : List D} {k : D} {v : V} (h : keyB ks k = true) (s : Same G H) (r : RepT C.K G H v k) : Rep C.K G v k := by
  cases r with
  | non => exact .non
  | bl b => exact .bl b
  | int i => exact .int i
  | str s => exact .str s
  | tup q _ rr => exact .tup q rr
  | lst _ _ => unfold keyB at h; split at h <;> cases h
  | scr _ => unfold keyB at h; split at h <;> cases h
  | dK _ _ _ => unfold keyB at h; split at h <;> cases h
  | dT _ _ _ => unfold keyB at h; split at h <;> cases h
def rIxDi : R2 := fun x y H Q => ∃ a v, x = .ref a ∧ DGet H a y (some v) ∧ Q v H
theorem ix_dic (hu : X.A.units + 1 < cLine) : IxR X rIxDi := by
  intro value slice pins s σ H x y v u Q I rx ry h hs
  obtain ⟨a, w, rfl, g, q⟩ := h
  obtain rfl : v = Value.ref a := rx
  exact tail_any (dict_typeIs I g) F.slot_dict_getitem.lookup (d_getItem hu I g ry fun w' s' I' rw' => ⟨w, H, I', rw', q⟩) hs
def rIxA (K : Frag) : R2 := fun x y H Q => rIx K x y H Q ∨ rIxDi x y H Q
theorem ix_A (hu : X.A.units + 1 < cLine) : IxR X (rIxA X.K) := ix_seq.or (ix_dic hu)
def ixA : List D → Option D
  | [.dic ks vs, k] => dgetF [.dic ks vs, k]
  | ds => ixF ds
theorem dgetF_inv {ds : List D} {d : D} (h : dgetF ds = some d) : ∃ ks vs k, ds = [.dic ks vs, k] ∧ keyB ks k = true ∧ lookD (keysD ks) vs k = some d := by
  unfold dgetF at h
  split at h
  · rename_i ks vs k
    split at h
    · rename_i hk
      exact ⟨ks, vs, k, rfl, hk, h⟩
    · cases h
  · cases h
theorem ixA_two : Two ixA := fun ds d h => by
  unfold ixA at h
  split at h
  · rfl
  · exact ixF_two _ _ h
theorem ixA_ok (hK : C.K = X.K) : Ok2 C (rIxA X.K) ixA := fun x y a b d G H Q s t r1 r2 e k => by
  unfold ixA at e
  split at e
  · rename_i ks vs k0 hq
    cases hq
    obtain ⟨ks', vs', k', z, hk, hl⟩ := dgetF_inv e
    cases z
    obtain ⟨p, o, rfl, g, _, h2⟩ := dget_of s r1 (keyB_flat (G' := G) hk s r2) hk
    obtain ⟨v, rfl, rv⟩ := h2 d hl
    exact .inr ⟨p, v, rfl, g, res_flat s t k rv⟩
  · exact .inl (ixF_ok hK x y a b d G H Q s t r1 r2 e k)
theorem hu1 {k : Nat} {A : Around} (hr : Room k A) : A.units + 1 < cLine := by have := hr.un; omega
/-! ### k in d -/
def rInDi (neg : Bool) : R2 := fun x y H Q => ∃ a o, y = .ref a ∧ DGet H a x o ∧ Q (.bl (neg != o.isSome)) H
def rMemA (K : Frag) (neg : Bool) : R2 := fun x y H Q => rMem K neg x y H Q ∨ rInDi neg x y H Q
theorem op_inB (hu : X.A.units + 65 < cLine) : OpR X (compareOp .In) (rMemA X.K false) := (op_inA hu).or (fun pins s σ H x y v u Q I rx ry h => by
  obtain ⟨a, o, rfl, g, q⟩ := h
  obtain rfl : u = Value.ref a := ry
  exact d_in (by omega) I g rx fun s' I' => ⟨.bl o.isSome, H, I', rfl, by simpa using q⟩)
theorem op_notInB (hu : X.A.units + 65 < cLine) : OpR X (compareOp .NotIn) (rMemA X.K true) := (op_notInA hu).or (fun pins s σ H x y v u Q I rx ry h => by
  obtain ⟨a, o, rfl, g, q⟩ := h
  obtain rfl : u = Value.ref a := ry
  exact d_notIn (by omega) I g rx fun s' I' => ⟨.bl (!o.isSome), H, I', rfl, by simpa using q⟩)
def memA (neg : Bool) : List D → Option D
  | [k, .dic ks vs] => if keyB ks k then some (.bl (neg != (lookD (keysD ks) vs k).isSome)) else none
  | ds => memF neg ds
theorem memA_two {n : Bool} : Two (memA n) := fun ds d h => by
  unfold memA at h
  split at h
  · rfl
  · exact memF_two _ _ h
theorem memA_boo {n : Bool} : Boo (memA n) := fun ds d h => by
  unfold memA at h
  split at h
  · split at h
    · cases h; exact ⟨_, rfl⟩
    · cases h
  · exact memF_boo _ _ h
theorem memA_ok {n : Bool} (hK : C.K = X.K) : Ok2 C (rMemA X.K n) (memA n) := fun x y a b d G H Q s t r1 r2 e k => by
  unfold memA at e
  split at e
  · rename_i k0 ks vs hq
    cases hq
    split at e
    · rename_i hk
      cases e
      obtain ⟨p, o, rfl, g, h1, h2⟩ := dget_of s r2 (keyB_flat (G' := G) hk s r1) hk
      refine .inr ⟨p, o, rfl, g, ?_⟩
      rw [h1]
      exact res_flat s t k (.bl _)
    · cases e
  · exact .inl (memF_ok hK x y a b d G H Q s t r1 r2 e k)
/-! ### d[k] = v -/
def rSetDi : V → V → V → Hp → (Hp → Prop) → Prop := fun o i v H Q => ∃ a H', o = .ref a ∧ DPut H a i v H' ∧ Q H'
theorem set_dic (hu : X.A.units + 1 < cLine) : PSet X rSetDi := fun pins s σ H o i v ov iv u Q I ro ri rv h => by
  obtain ⟨a, H', rfl, g, q⟩ := h
  obtain rfl : ov = Value.ref a := ro
  exact d_setItem hu I g ri rv fun s' I' => ⟨H', I', q⟩
def rSetA : V → V → V → Hp → (Hp → Prop) → Prop := fun o i v H Q => rSetL o i v H Q ∨ rSetDi o i v H Q
theorem set_A (hu : X.A.units + 1 < cLine) : PSet X rSetA := fun pins s σ H o i v ov iv u Q I ro ri rv h => h.elim (set_list pins s σ H o i v ov iv u Q I ro ri rv) (set_dic hu pins s σ H o i v ov iv u Q I ro ri rv)
def setA : D → D → D → Option D := fun o k d => match o with
  | .dic ks vs => if keyB ks k = true ∧ ks.length < 1000000 then some (.dic (rowK (isTK ks) (putKs (keysD ks) k)) (putVs (keysD ks) vs k d)) else none
  | o => setL o k d
theorem setA_ok : OkS C rSetA setA := fun p y v o d0 kd d d1 G H Q s h r0 rk rd hf hQ => by
  unfold setA at hf
  split at hf
  · rename_i ks vs
    split at hf
    · rename_i hk
      cases hf
      unfold keyB at hk
      cases r0 with
      | dK e rr =>
        rename_i kvs
        subst e
        rw [isTK_K.1] at hk hQ
        rw [isTK_K.2] at hQ
        obtain ⟨k, rfl, rfl⟩ := keyK_rep hk.1 rk
        refine .inr ⟨p, _, rfl, .inl ⟨kvs, k, h, rfl, ?_, rfl⟩, hQ _ (.dK (put_keys eqv_keyD k v kvs) (put_rep eqv_keyD k rd rr))⟩
        have := hk.2
        rw [List.length_map] at this
        rw [sizeLine_eq]
        omega
      | dT e rr =>
        rename_i kvs
        subst e
        obtain ⟨k, b, rfl, rfl, hb⟩ := keyT_rep hk.1 rk
        refine .inr ⟨p, _, rfl, .inr ⟨kvs, k, b, h, rfl, s _ _ hb, ?_, rfl⟩, hQ _ (.dT ?_ (put_rep eqv_keyTD k rd rr))⟩
        · have := hk.2
          rw [List.length_cons, List.length_map] at this
          rw [sizeLine_eq]
          omega
        · exact congrArg (List.cons D.non) (put_keys eqv_keyTD k v kvs)
    · cases hf
  · exact .inl (setL_ok p y v o d0 kd d d1 G H Q s h r0 rk rd hf hQ)
theorem cs_subA {i : Nat} (h : ∀ {te ti : TE}, PE X a te → PE X b ti → PS X st (tAsg te (gSub (tVar i) ti rSetA))) (ha : PE X a (tE C x)) (hb : PE X b (tE C y)) : PS X st (tS C (.sub setA i y x)) :=
  (h ha hb).imp fun D σ H q => sub_of setA_ok q
/-! ### len(d) -/
def lenA : List D → Option D
  | [.dic ks vs] => some (.int vs.length)
  | ds => lenF ds
def rLenD : List V → Hp → VK → Prop := fun xs H Q => ∃ a n, xs = [V.ref a] ∧ ((∃ kvs, Rd H a (.dK kvs) ∧ n = kvs.length) ∨ ∃ kvs, Rd H a (.dT kvs) ∧ n = kvs.length) ∧ Q (.int (n : Nat)) H
theorem call_lenDi : CallR X (.builtin "len") rLenD := by
  intro pins s σ H xs us Q I r h
  obtain ⟨a, n, rfl, hd, q⟩ := h
  obtain ⟨u, rfl, ru⟩ := vals1 r
  obtain rfl : u = .ref a := ru
  rcases hd with ⟨kvs, hd, rfl⟩ | ⟨kvs, hd, rfl⟩
  · exact d_len I hd fun t s' I' => ⟨.int kvs.length, H, I', ⟨t, rfl⟩, q⟩
  · obtain ⟨z, hs, ys, rel, dd⟩ := dt_rd I.hok hd
    have hl : kvs.length = ys.length := Paired.length rel
    refine call_len_dictH hs dd (by rw [← hl]; rw [sizeLine_eq] at z; omega) ?_
    rw [← hl]
    exact ⟨.int ((kvs.length : Nat) : Int), H, I.tok _, ⟨_, rfl⟩, q⟩
theorem call_lenA : CallR X (.builtin "len") (fun xs H Q => (∃ x n, xs = [x] ∧ LenV X.K x H n ∧ Q (.int n) H) ∨ rLenD xs H Q) := call_len.or call_lenDi
theorem lenA_ok (hK : C.K = X.K) : OkN C (fun xs H Q => (∃ x n, xs = [x] ∧ LenV X.K x H n ∧ Q (.int n) H) ∨ rLenD xs H Q) lenA := fun vs ds d G H Q s t r e k => by
  unfold lenA at e
  split at e
  · rename_i ks vs0
    cases e
    obtain ⟨v, rfl, rv⟩ := repTs_one r
    cases rv with
    | dK q e rr =>
      rename_i a kvs
      have hl := rr.length
      rw [List.length_map] at hl
      exact .inr ⟨a, _, rfl, .inl ⟨kvs, q, hl.symm⟩, res_flat s t k (.int _)⟩
    | dT q e rr =>
      rename_i a kvs
      have hl := rr.length
      rw [List.length_map] at hl
      exact .inr ⟨a, _, rfl, .inr ⟨kvs, q, hl.symm⟩, res_flat s t k (.int _)⟩
  · exact .inl (lenF_ok hK vs ds d G H Q s t r e k)
/-! ### {} -/
def newK : List D → Option D
  | [] => some (.dic [] [])
  | _ => none
def newT : List D → Option D
  | [] => some (.dic [.non] [])
  | _ => none
theorem newK_ok : OkMF C (fun vs H Q => vs = [] ∧ ∀ p, H p = none → Q (.ref p) (upd H p (.dK []))) newK := fun vs ds d G H Q s t r e k => by
  unfold newK at e
  split at e
  · cases e
    cases r
    exact ⟨rfl, fun p hp => k p _ hp (.dK rfl .nil)⟩
  · cases e
theorem newT_ok : OkMF C (fun vs H Q => vs = [] ∧ ∀ p, H p = none → Q (.ref p) (upd H p (.dT []))) newT := fun vs ds d G H Q s t r e k => by
  unfold newT at e
  split at e
  · cases e
    cases r
    exact ⟨rfl, fun p hp => k p _ hp (.dT rfl .nil)⟩
  · cases e
theorem tF_nil {P : Hp → Prop} {σ : St} {H : Hp} (q : tA C [] σ H fun vs H1 => vs = [] ∧ P H1) : P H := by
  obtain ⟨F, G0, G, pn, e, rs, e', R, he, k⟩ := q
  unfold evs at he
  cases he
  exact (k [] G H R (Same.refl G) .nil).2
theorem cf_dK : PE X (.Dict [] [] pos) (tF C (.mk newK [])) := pe_dnewK.imp fun σ H Q q => tF_nil (P := fun H => ∀ p, H p = none → Q (.ref p) (upd H p (.dK []))) (tF_mk newK_ok q)
theorem cf_dT : PE X (.Dict [] [] pos) (tF C (.mk newT [])) := pe_dnewT.imp fun σ H Q q => tF_nil (P := fun H => ∀ p, H p = none → Q (.ref p) (upd H p (.dT []))) (tF_mk newT_ok q)
/-! ### d.get(k), d.get(k, x) -/
/-- what turns no thing over -/
def SameD (e e' : Env') : Prop := ∀ (i : Nat) (b : B) (d : D), e[i]? = some b → b.data = some d → ∃ b' : B, e'[i]? = some b' ∧ b'.data = some d
theorem SameD.refl (e : Env') : SameD e e := fun i b d h q => ⟨b, h, q⟩
theorem SameD.trans {e1 e2 e3 : Env'} (h : SameD e1 e2) (g : SameD e2 e3) : SameD e1 e3 := fun i b d h1 h2 => by
  obtain ⟨b', h3, h4⟩ := h i b d h1 h2
  exact g i b' d h3 h4
theorem settle_same {r : Rv} {d : D} {e e' : Env'} (h : r.settle e = some (d, e')) : SameD e e' := by
  unfold Rv.settle at h
  split at h
  · cases h; exact SameD.refl _
  · rename_i i
    split at h
    · cases h; exact SameD.refl _
    · rename_i d0 hi
      cases h
      intro j b d' h1 h2
      by_cases z : i = j
      · subst z
        rw [hi] at h1
        cases h1
        cases h2
        exact ⟨.im _, List.getElem?_set_self (by have := (List.getElem?_eq_some_iff.mp hi).1; exact this), rfl⟩
      · exact ⟨b, by rw [List.getElem?_set_ne z]; exact h1, h2⟩
    · cases h
theorem settles_same : ∀ {rs : List Rv} {ds : List D} {e e' : Env'}, settles e rs = some (ds, e') → SameD e e'
  | [], _, _, _, h => by unfold settles at h; cases h; exact SameD.refl _
  | r :: rs, ds, e, e', h => by
    unfold settles at h
    split at h
    · rename_i d e1 h1
      split at h
      · rename_i ds2 e2 h2
        cases h
        exact (settle_same h1).trans (settles_same h2)
      · cases h
    · cases h
mutual
def calmE : Ex → Bool
  | .cst _ => true
  | .var _ => true
  | .op _ as => calmEs as
  | .mk _ as => calmEs as
  | .call _ as => calmEs as
  | _ => false
def calmEs : List Ex → Bool
  | [] => true
  | a :: as => calmE a && calmEs as
end
mutual
theorem calmE_same : ∀ (x : Ex) {e e' : Env'} {r : Rv}, calmE x = true → ev x e = some (r, e') → SameD e e'
  | .cst d, e, e', r, _, h => by unfold ev at h; cases h; exact SameD.refl e
  | .var i, e, e', r, _, h => by
    unfold ev at h
    split at h <;> first | (cases h; exact SameD.refl e) | cases h
  | .op f as, e, e', r, hc, h => by
    unfold calmE at hc
    obtain ⟨rs, ds, d, q1, q2, q3, rfl⟩ := ev_op h
    exact calmEs_same as hc q1
  | .mk f as, e, e', r, hc, h => by
    unfold calmE at hc
    obtain ⟨rs, e1, ds, d, q1, q2, q3, rfl⟩ := ev_mk h
    exact (calmEs_same as hc q1).trans (settles_same q2)
  | .call φ as, e, e', r, hc, h => by
    unfold calmE at hc
    unfold ev at h
    split at h
    · rename_i rs e1 q1
      split at h
      · rename_i ds e2 q2
        split at h
        · cases h
          exact (calmEs_same as hc q1).trans (settles_same q2)
        · cases h
      · cases h
    · cases h
  | .callO _ _ _, _, _, _, hc, _ => by unfold calmE at hc; cases hc
  | .callB _ _, _, _, _, hc, _ => by unfold calmE at hc; cases hc
  | .and_ _ _, _, _, _, hc, _ => by unfold calmE at hc; cases hc
  | .or_ _ _, _, _, _, hc, _ => by unfold calmE at hc; cases hc
  | .ite _ _ _, _, _, _, hc, _ => by unfold calmE at hc; cases hc
  | .chain _ _ _ _ _, _, _, _, hc, _ => by unfold calmE at hc; cases hc
  | .chain3 _ _ _ _ _ _ _, _, _, _, hc, _ => by unfold calmE at hc; cases hc
  | .lc _ _ _ _ _ _, _, _, _, hc, _ => by unfold calmE at hc; cases hc
  | .lc2 _ _ _ _ _ _ _ _ _ _ _, _, _, _, hc, _ => by unfold calmE at hc; cases hc
  | .dsp _ _ _, _, _, _, hc, _ => by unfold calmE at hc; cases hc
theorem calmEs_same : ∀ (xs : List Ex) {e e' : Env'} {rs : List Rv}, calmEs xs = true → evs xs e = some (rs, e') → SameD e e'
  | [], e, e', rs, _, h => by unfold evs at h; cases h; exact SameD.refl e
  | a :: as, e, e', rs, hc, h => by
    unfold calmEs at hc
    rw [Bool.and_eq_true] at hc
    obtain ⟨r1, e1, rs2, h1, h2, rfl⟩ := evs_cons h
    exact (calmE_same a hc.1 h1).trans (calmEs_same as hc.2 h2)
end
/-- the thing was there before -/
theorem get_back {r : Rv} {e e' : Env'} {v : V} {d : D} (s : SameD e e') (rv : RepR C.K G σ e r v) (g : r.get e' = some d) : r.get e = some d := by
  cases r with
  | pers d0 => exact g
  | bor i =>
    obtain ⟨_, b, d0, h1, h2⟩ := rv
    obtain ⟨b', h3, h4⟩ := s i b d0 h1 h2
    have e1 : (Rv.bor i).get e = (match (some d0 : Option D) with
      | some (D.lst l) => some (D.lst l)
      | some (D.dic k v) => some (D.dic k v)
      | _ => none) := by
      show (match e[i]? with | some b => (match b.data with | some (D.lst l) => some (D.lst l) | some (D.dic k v) => some (D.dic k v) | _ => none) | none => none : Option D) = _
      rw [h1, ← h2]
    have e2 : (Rv.bor i).get e' = (match (some d0 : Option D) with
      | some (D.lst l) => some (D.lst l)
      | some (D.dic k v) => some (D.dic k v)
      | _ => none) := by
      show (match e'[i]? with | some b => (match b.data with | some (D.lst l) => some (D.lst l) | some (D.dic k v) => some (D.dic k v) | _ => none) | none => none : Option D) = _
      rw [h3, ← h4]
    rw [e1, ← e2]
    exact g
def dget1F : List D → Option D
  | [.dic ks vs, k] => if keyB ks k then some ((lookD (keysD ks) vs k).getD .non) else none
  | _ => none
def dget2F : List D → Option D
  | [.dic ks vs, k, z] => if keyB ks k then some ((lookD (keysD ks) vs k).getD z) else none
  | _ => none
theorem isD_rep {v : V} {ks vs : List D} (r : RepT C.K G H v (.dic ks vs)) : ∃ a, v = .ref a ∧ IsD H a := by
  cases r with
  | dK q e rr => exact ⟨_, rfl, .inl ⟨_, q⟩⟩
  | dT q e rr => exact ⟨_, rfl, .inr ⟨_, q⟩⟩
theorem ce_dget1 (h : ∀ {te ti : TE}, PE X ex1 te → PE X ex2 ti → PE X c (tDGet1 te ti)) (hq : calmE y = true) (ho : PE X ex1 (tE C x)) (ha : PE X ex2 (tE C y)) : PE X c (tE C (.op dget1F [x, y])) := (h ho ha).imp fun σ H Q q => by
  obtain ⟨F, G0, G, pn, e, rr, e', R, he, k⟩ := q
  obtain ⟨rs, ds, d, q1, q2, q3, rfl⟩ := ev_op he
  obtain ⟨r1, e1, rs2, h1, h2, rfl⟩ := evs_cons q1
  obtain ⟨r2, e2, rs3, h3, h4, rfl⟩ := evs_cons h2
  obtain ⟨rfl, rfl⟩ := evs_nil h4
  obtain ⟨d1, ds1, g1, g2, rfl⟩ := gets_cons q2
  obtain ⟨d2, ds2, g3, g4, rfl⟩ := gets_cons g2
  cases gets_nil g4
  unfold dget1F at q3
  split at q3
  · rename_i ks vs k0 hz
    cases hz
    split at q3
    · rename_i hk
      cases q3
      have hs := calmE_same y hq h3
      refine ⟨F, G0, G, pn, e, r1, e1, R, h1, fun v G1 H1 R1 s1 rv => ?_⟩
      obtain ⟨a, rfl, hd⟩ := isD_rep (R1.get rv (get_back hs rv g1))
      refine ⟨a, rfl, hd, F, G0, G1, pn, e1, r2, _, R1, h3, fun w G2 H2 R2 s2 rw' => ?_⟩
      have rv2 := (rv.mono s2).env (ev_kept y _ _ _ h3).1
      have rk := keyB_flat (G' := G2) hk R2.gh (R2.get rw' g3)
      obtain ⟨a', o, z, g, i1, i2⟩ := dget_of R2.gh (R2.get rv2 g1) rk hk
      cases z
      refine ⟨o, g, ?_⟩
      cases hl : lookD (keysD ks) vs d2 with
      | none =>
        rw [hl] at i1
        cases o with
        | some _ => cases i1
        | none =>
          have := k .non G2 H2 R2 (s1.trans s2) (by rw [hl]; exact .non)
          exact this
      | some d =>
        obtain ⟨v, rfl, rv⟩ := i2 d hl
        exact k v G2 H2 R2 (s1.trans s2) (by rw [hl]; exact rv)
    · cases q3
  · cases q3
def oneF : List D → Option D
  | [d] => some d
  | _ => none
theorem ev_idE {x : Ex} {e e' : Env'} {r : Rv} (h : ev (.mk oneF [x]) e = some (r, e')) : ∃ r1 e1 d, ev x e = some (r1, e1) ∧ r1.settle e1 = some (d, e') ∧ r = .pers d := by
  obtain ⟨rs, e1, ds, d, q1, q2, q3, rfl⟩ := ev_mk h
  obtain ⟨r1, q4, rfl⟩ := tE_one (f := fun _ => none) q1
  obtain ⟨d1, q5, rfl⟩ := settles_one q2
  cases q3
  exact ⟨r1, e1, _, q4, q5, rfl⟩
theorem ce_idE (ha : PE X a (tE C x)) : PE X a (tE C (.mk oneF [x])) := ha.imp fun σ H Q q => by
  obtain ⟨F, G0, G, pn, e, rr, e', R, he, k⟩ := q
  obtain ⟨r1, e1, d, h1, h2, rfl⟩ := ev_idE he
  refine ⟨F, G0, G, pn, e, r1, e1, R, h1, fun v G1 H1 R1 s1 rv => ?_⟩
  obtain ⟨G2, s2, R2, r2, _⟩ := R1.settle rv h2
  exact k v G2 H1 R2 (s1.trans s2) r2
variable {ex3 : Expr}
theorem ce_dget2 (h : ∀ {te ti tx : TE}, PE X ex1 te → PE X ex2 ti → PE X ex3 tx → PE X c (tDGet2 te ti tx)) (hq : calmEs [y, z] = true) (ho : PE X ex1 (tE C x)) (ha : PE X ex2 (tE C y)) (hb : PE X ex3 (tE C z)) : PE X c (tE C (.op dget2F [x, y, .mk oneF [z]])) := (h ho ha (ce_idE hb)).imp fun σ H Q q => by
  obtain ⟨F, G0, G, pn, e, rr, e', R, he, k⟩ := q
  obtain ⟨rs, ds, d, q1, q2, q3, rfl⟩ := ev_op he
  obtain ⟨r1, e1, rs2, h1, h2, rfl⟩ := evs_cons q1
  obtain ⟨r2, e2, rs3, h3, h4, rfl⟩ := evs_cons h2
  obtain ⟨r3, e3, rs4, h5, h6, rfl⟩ := evs_cons h4
  obtain ⟨rfl, rfl⟩ := evs_nil h6
  obtain ⟨d1, ds1, g1, g2, rfl⟩ := gets_cons q2
  obtain ⟨d2, ds2, g3, g4, rfl⟩ := gets_cons g2
  obtain ⟨d3, ds3, g5, g6, rfl⟩ := gets_cons g4
  cases gets_nil g6
  obtain ⟨r5, e5, d5, _, _, rfl⟩ := ev_idE h5
  cases g5
  unfold dget2F at q3
  split at q3
  · rename_i ks vs k0 z0 hz
    cases hz
    split at q3
    · rename_i hk
      cases q3
      unfold calmEs at hq
      unfold calmEs at hq
      unfold calmEs at hq
      rw [Bool.and_eq_true, Bool.and_eq_true] at hq
      have hs1 := calmE_same y hq.1 h3
      have hs2 := calmE_same (.mk oneF [z]) (by unfold calmE; unfold calmEs; unfold calmEs; rw [hq.2.1]; rfl) h5
      refine ⟨F, G0, G, pn, e, r1, e1, R, h1, fun v G1 H1 R1 s1 rv => ?_⟩
      obtain ⟨a, rfl, hd⟩ := isD_rep (R1.get rv (get_back (hs1.trans hs2) rv g1))
      refine ⟨a, rfl, hd, F, G0, G1, pn, e1, r2, _, R1, h3, fun w G2 H2 R2 s2 rw' => ⟨F, G0, G2, pn, e2, .pers _, _, R2, h5, fun u G3 H3 R3 s3 ru => ?_⟩⟩
      have rv2 := (((rv.mono s2).env (ev_kept y _ _ _ h3).1).mono s3).env (ev_kept _ _ _ _ h5).1
      have rw2 := (rw'.mono s3).env (ev_kept _ _ _ _ h5).1
      have rk := keyB_flat (G' := G3) hk R3.gh (R3.get rw2 g3)
      obtain ⟨a', o, zz, g, i1, i2⟩ := dget_of R3.gh (R3.get rv2 g1) rk hk
      cases zz
      refine ⟨o, g, ?_⟩
      cases hl : lookD (keysD ks) vs d2 with
      | none =>
        rw [hl] at i1
        cases o with
        | some _ => cases i1
        | none => exact k u G3 H3 R3 ((s1.trans s2).trans s3) (by rw [hl]; exact ru)
      | some d =>
        obtain ⟨v, rfl, rv⟩ := i2 d hl
        exact k v G3 H3 R3 ((s1.trans s2).trans s3) (by rw [hl]; exact rv)
    · cases q3
  · cases q3
end
end Mi

/-! Dicts made: of a list of pairs, by a display. -/
namespace Mi
open PySem PySem.Spec PyProof.Rows L2 GxR
def pairsD : List D → Option (List (D × D))
  | [] => some []
  | .tup [k, v] :: l => (pairsD l).map fun r => (k, v) :: r
  | _ => none
/-- stored one by one -/
def mkDic (ps : List (D × D)) (ks vs : List D) : List D × List D := ps.foldl (fun s p => (putKs s.1 p.1, putVs s.1 s.2 p.1 p.2)) (ks, vs)
def dictF : List D → Option D
  | [.lst l] => (match pairsD l with
    | some ps => if (ps.all fun p => keyK p.1) = true then some (.dic (mkDic ps [] []).1 (mkDic ps [] []).2) else none
    | none => none)
  | _ => none
section
variable {K : Frag} {G H : Hp}
theorem pairs_rep : ∀ {l : List D} {xs : List V} {ps : List (D × D)}, pairsD l = some ps → (ps.all fun p => keyK p.1) = true → RepL K G xs l →
    ∃ (as : List Addr) (kvs : List (Key × V)), xs = as.map V.ref ∧ ps.map (·.1) = kvs.map (fun q => keyD q.1) ∧ RepL K G (kvs.map (·.2)) (ps.map (·.2)) ∧ Paired (fun p kv => SqT K G p [kV kv.1, kv.2]) as kvs
  | [], xs, ps, h, _, r => by
    unfold pairsD at h
    cases h
    cases r
    exact ⟨[], [], rfl, rfl, .nil, .nil⟩
  | d :: l, xs, ps, h, ha, r => by
    cases r with
    | cons a b =>
      unfold pairsD at h
      split at h
      · rename_i e; cases e
      · rename_i k v l' e
        cases e
        obtain ⟨ps', e2, rfl⟩ := Option.map_eq_some_iff.mp h
        rw [List.all_cons, Bool.and_eq_true] at ha
        obtain ⟨as, kvs, rfl, h1, h2, h3⟩ := pairs_rep e2 ha.2 b
        cases a with
        | tup q rr =>
          rename_i p0 xs0
          cases rr with
          | cons r1 rr =>
            cases rr with
            | cons r2 rr =>
              cases rr
              obtain ⟨k', hk, rfl⟩ := keyK_rep ha.1 r1
              refine ⟨p0 :: as, (k', _) :: kvs, rfl, ?_, .cons r2 h2, .cons (SqT.of q) h3⟩
              rw [List.map_cons, List.map_cons, h1, ← hk]
      · cases h
theorem mkDic_rep : ∀ {ps : List (D × D)} {more kvs : List (Key × V)} {vs : List D}, ps.map (·.1) = more.map (fun q => keyD q.1) → RepL K G (more.map (·.2)) (ps.map (·.2)) → RepL K G (kvs.map (·.2)) vs →
    (mkDic ps (kvs.map fun q => keyD q.1) vs).1 = (mergeK kvs more).map (fun q => keyD q.1) ∧ RepL K G ((mergeK kvs more).map (·.2)) (mkDic ps (kvs.map fun q => keyD q.1) vs).2
  | [], more, kvs, vs, h1, h2, h3 => by
    cases more with
    | nil => exact ⟨rfl, h3⟩
    | cons m more => simp at h1
  | p :: ps, more, kvs, vs, h1, h2, h3 => by
    cases more with
    | nil => simp at h1
    | cons m more =>
      rw [List.map_cons, List.map_cons, List.cons.injEq] at h1
      rw [List.map_cons, List.map_cons] at h2
      cases h2 with
      | cons r1 r2 =>
        have e1 := put_keys eqv_keyD m.1 m.2 kvs
        have e2 := put_rep eqv_keyD m.1 r1 h3
        have ih := mkDic_rep (kvs := putK kvs m.1 m.2) h1.2 r2 e2
        unfold mkDic at ih ⊢
        rw [List.foldl_cons]
        dsimp only
        rw [h1.1, e1]
        exact ih
end
section
variable {X : Cx} {C : Cfg} {F G0 G H : Hp} {pn : Option (Nat × Addr)} {σ : St} {e e' : Env'} {a b c o : Expr} {x y z : Ex} {pos : Pos}
def rDictP (K : Frag) : List V → Hp → VK → Prop := fun xs H Q => ∃ (a : Addr) (ps : List Addr) (kvs : List (Key × V)), xs = [.ref a] ∧ SqL K H a (ps.map V.ref) ∧ Paired (fun p kv => SqT K H p [kV kv.1, kv.2]) ps kvs ∧
  ∀ p, H p = none → Q (.ref p) (upd H p (.dK (mergeK [] kvs)))
theorem call_dictA (hc : X.calm = true) : CallR X (.type "dict") (rDictP X.K) := call_dictP hc
theorem dictF_ok (hK : C.K = X.K) : OkNF C (rDictP X.K) dictF := fun vs ds d G H Q s t r e k => by
  unfold dictF at e
  split at e
  · rename_i l
    split at e
    · rename_i ps hp
      split at e
      · rename_i ha
        cases e
        obtain ⟨v, rfl, rv⟩ := repTs_one r
        cases rv with
        | lst q rr =>
          obtain ⟨as, kvs, rfl, h1, h2, h3⟩ := pairs_rep hp ha rr
          obtain ⟨m1, m2⟩ := mkDic_rep (kvs := []) (vs := []) h1 h2 .nil
          refine ⟨_, as, kvs, rfl, SqL.of q, h3.mono fun _ _ z => ?_, fun p hp => k p _ hp (.dK m1 m2)⟩
          rw [← hK]
          exact s.seqT z
      · cases e
    · cases e
  · cases e
/-! ### {k: v} -/
def disp1F : List D → Option D
  | [k, v] => if keyK k then some (.dic [k] [v]) else none
  | _ => none
theorem cf_disp1 (hK : PE X a (tE C x)) (hV : PE X b (tE C y)) : PE X (.Dict [some a] [b] pos) (tF C (.mk disp1F [x, y])) := (pe_disp (pps_cons hK hV pps_nil) rfl rfl (by simp) (by simp)).imp fun σ H Q q => by
  obtain ⟨F, G0, G, pn, e, d0, e', R, he, k⟩ := q
  obtain ⟨rs, e1, ds, d, q1, q2, q3, q4⟩ := ev_mk he
  cases q4
  obtain ⟨r1, e2, rs2, h1, h2, rfl⟩ := evs_cons q1
  obtain ⟨r2, e3, rs3, h3, h4, rfl⟩ := evs_cons h2
  obtain ⟨rfl, rfl⟩ := evs_nil h4
  intro D0 hD
  have fD : F D0 = none := R.fh.free hD
  have tD : D0 ∉ C.tt := fun z => tabG_some (R.tb D0 z).1 hD
  have Rn := R.grow (grow_own (o := .dK []) R.gh R.tabs hD)
  have R0 := Rn.fr1 (o := .dK []) upd_same (R.gh.free hD) fD (fun i ⟨a1, b, a2, a3⟩ => by
    have q := R.sl i b a2
    rw [a1] at q
    cases b with
    | un => cases a3
    | im d => cases a3
    | ow d => obtain ⟨p, o, z, _, _, _, k4, _⟩ := q; cases z; rw [hD] at k4; cases k4
    | io d => obtain ⟨p, o, z, _, _, _, k4, _⟩ := q; cases z; rw [hD] at k4; cases k4) tD
  refine ⟨_, _, G, pn, e, r1, e2, R0, h1, fun v G1 H1 R1 s1 rv => ⟨_, _, G1, pn, e2, r2, _, R1, h3, fun w G2 H2 R2 s2 rw' => ?_⟩⟩
  obtain ⟨G3, s3, R3, r3, _⟩ := Rel.settles R2 (.cons ((rv.mono s2).env (ev_kept y _ _ _ h3).1) (.cons rw' .nil)) q2
  unfold disp1F at q3
  split at q3
  · rename_i kd vd
    split at q3
    · rename_i hk
      cases q3
      cases r3 with
      | cons ra rb =>
        cases rb with
        | cons rb rc =>
          obtain ⟨key, rfl, rfl⟩ := keyK_rep hk ra
          obtain ⟨u1, u2, u3, u4⟩ := R3.un1 (o' := .dK [(key, w)]) fD tD
          refine ⟨u1, [(key, w)], rfl, by simp, ?_⟩
          exact k D0 (.dK [(key, w)]) G3 _ u4 ((s1.trans s2).trans s3) u2 fD tD u3 upd_same (.dK rfl (.cons rb .nil))
    · cases q3
  · cases q3
end
end Mi

/-! Dicts walked: locked while they are. -/
namespace Mi
open PySem PySem.Spec PyProof.Rows L2 GxR
/-- what is told of a heap is told of the other -/
structure Trd (G G' : Hp) : Prop where
  tup : ∀ a xs, G a = some (.tup xs) → G' a = some (.tup xs)
  lst : ∀ a xs, G a = some (.lst xs) → G' a = some (.lst xs)
  rl : ∀ a xs, Rd G a (.lst xs) → Rd G' a (.lst xs)
  rk : ∀ a kvs, Rd G a (.dK kvs) → Rd G' a (.dK kvs)
  rt : ∀ a kvs, Rd G a (.dT kvs) → Rd G' a (.dT kvs)
section
variable {K : Frag} {G G' : Hp}
mutual
theorem Rep.trd (t : Trd G G') : ∀ (d : D) (v : V), Rep K G v d → Rep K G' v d
  | .non, _, h => by cases h; exact .non
  | .bl b, _, h => by cases h; exact .bl b
  | .int i, _, h => by cases h; exact .int i
  | .str x, _, h => by cases h; exact .str x
  | .tup ds, _, h => by
    cases h with
    | tup q r => exact .tup (t.tup _ _ q) (RepL.trd t ds _ r)
  | .lst ds, _, h => by
    cases h with
    | lst q r => exact .lst (t.lst _ _ q) (RepL.trd t ds _ r)
  | .scr ns, _, h => by
    cases h with
    | scr q => exact .scr (q.elim (fun q => .inl (t.rl _ _ q)) .inr)
  | .dic ks vs, _, h => by
    cases h with
    | dK q e r => exact .dK (t.rk _ _ q) e (RepL.trd t vs _ r)
    | dT q e r => exact .dT (t.rt _ _ q) e (RepL.trd t vs _ r)
theorem RepL.trd (t : Trd G G') : ∀ (ds : List D) (vs : List V), RepL K G vs ds → RepL K G' vs ds
  | [], _, h => by cases h; exact .nil
  | d :: ds, _, h => by
    cases h with
    | cons a b => exact .cons (Rep.trd t d _ a) (RepL.trd t ds _ b)
end
theorem RepO.trd (t : Trd G G') {o : HO} {d : D} (h : RepO K G o d) : RepO K G' o d := by
  cases h with
  | lst r => exact .lst (r.trd t _ _)
  | dK e r => exact .dK e (r.trd t _ _)
  | dT e r => exact .dT e (r.trd t _ _)
/-- a dict -/
def IsDk (u : HO) : Prop := (∃ kvs, u = .dK kvs) ∨ ∃ kvs, u = .dT kvs
def lkAt (p : Addr) (od : Obj) (u : HO) (G : Hp) : Hp := fun b => if b = p then (match G b with
  | none => none
  | some _ => some (.frz od u)) else G b
variable {p : Addr} {od : Obj} {u : HO}
theorem lk_ne {b : Addr} (h : b ≠ p) : lkAt p od u G b = G b := if_neg h
theorem lk_none (h : G p = none) : lkAt p od u G p = none := by
  unfold lkAt
  rw [if_pos rfl, h]
theorem lk_some {x : HO} (h : G p = some x) : lkAt p od u G p = some (.frz od u) := by
  unfold lkAt
  rw [if_pos rfl, h]
theorem lk_upd {x : HO} (h : G p = some x) : lkAt p od u G = upd G p (.frz od u) := by
  funext b
  by_cases e : b = p
  · rw [e, lk_some h, upd_same]
  · rw [lk_ne e, upd_ne e]
theorem lk_free {b : Addr} : lkAt p od u G b = none ↔ G b = none := by
  by_cases e : b = p
  · subst e
    cases h : G b with
    | none => simp [lk_none h]
    | some x => simp [lk_some h]
  · rw [lk_ne e]
theorem trd_lock (hp : G p = some u) (hu : IsDk u) : Trd G (lkAt p od u G) where
  tup := fun a xs h => by
    rw [lk_ne (fun z => ?_)]
    · exact h
    · rw [z, hp] at h
      rcases hu with ⟨k, rfl⟩ | ⟨k, rfl⟩ <;> cases h
  lst := fun a xs h => by
    rw [lk_ne (fun z => ?_)]
    · exact h
    · rw [z, hp] at h
      rcases hu with ⟨k, rfl⟩ | ⟨k, rfl⟩ <;> cases h
  rl := fun a xs h => by
    have ne : a ≠ p := fun z => by
      subst z
      rcases h with h | ⟨o, h⟩ <;> rw [hp] at h <;> rcases hu with ⟨k, rfl⟩ | ⟨k, rfl⟩ <;> cases h
    rcases h with h | ⟨o, h⟩
    · exact .inl (by rw [lk_ne ne]; exact h)
    · exact .inr ⟨o, by rw [lk_ne ne]; exact h⟩
  rk := fun a kvs h => by
    by_cases z : a = p
    · subst z
      rcases h with h | ⟨o, h⟩
      · rw [hp] at h
        cases h
        exact .inr ⟨od, lk_some hp⟩
      · rw [hp] at h
        rcases hu with ⟨k, rfl⟩ | ⟨k, rfl⟩ <;> cases h
    · rcases h with h | ⟨o, h⟩
      · exact .inl (by rw [lk_ne z]; exact h)
      · exact .inr ⟨o, by rw [lk_ne z]; exact h⟩
  rt := fun a kvs h => by
    by_cases z : a = p
    · subst z
      rcases h with h | ⟨o, h⟩
      · rw [hp] at h
        cases h
        exact .inr ⟨od, lk_some hp⟩
      · rw [hp] at h
        rcases hu with ⟨k, rfl⟩ | ⟨k, rfl⟩ <;> cases h
    · rcases h with h | ⟨o, h⟩
      · exact .inl (by rw [lk_ne z]; exact h)
      · exact .inr ⟨o, by rw [lk_ne z]; exact h⟩
theorem trd_unlock (hp : G p = some (.frz od u)) : Trd G (upd G p u) where
  tup := fun a xs h => by
    rw [upd_ne (fun z => ?_)]
    · exact h
    · rw [z, hp] at h; cases h
  lst := fun a xs h => by
    rw [upd_ne (fun z => ?_)]
    · exact h
    · rw [z, hp] at h; cases h
  rl := fun a xs h => by
    by_cases z : a = p
    · subst z
      rcases h with h | ⟨o, h⟩
      · rw [hp] at h; cases h
      · rw [hp] at h
        cases h
        exact .inl upd_same
    · rcases h with h | ⟨o, h⟩
      · exact .inl (by rw [upd_ne z]; exact h)
      · exact .inr ⟨o, by rw [upd_ne z]; exact h⟩
  rk := fun a kvs h => by
    by_cases z : a = p
    · subst z
      rcases h with h | ⟨o, h⟩
      · rw [hp] at h; cases h
      · rw [hp] at h
        cases h
        exact .inl upd_same
    · rcases h with h | ⟨o, h⟩
      · exact .inl (by rw [upd_ne z]; exact h)
      · exact .inr ⟨o, by rw [upd_ne z]; exact h⟩
  rt := fun a kvs h => by
    by_cases z : a = p
    · subst z
      rcases h with h | ⟨o, h⟩
      · rw [hp] at h; cases h
      · rw [hp] at h
        cases h
        exact .inl upd_same
    · rcases h with h | ⟨o, h⟩
      · exact .inl (by rw [upd_ne z]; exact h)
      · exact .inr ⟨o, by rw [upd_ne z]; exact h⟩
theorem IsDk.mut (h : IsDk u) : Mut (some u) := by rcases h with ⟨k, rfl⟩ | ⟨k, rfl⟩ <;> trivial
theorem IsDk.nt (h : IsDk u) : NT (some u) := fun xs z => by rcases h with ⟨k, rfl⟩ | ⟨k, rfl⟩ <;> cases z
theorem IsDk.ntab (h : IsDk u) {H : Hp} (hp : H p = some u) {P : Addr} (t : TabG H P) : P ≠ p := fun z => by
  obtain ⟨ps, h1, _⟩ := t
  rw [z, hp] at h1
  rcases h with ⟨k, rfl⟩ | ⟨k, rfl⟩ <;> cases h1
end
section
variable {C : Cfg} {F G0 G G2 H H2 : Hp} {pn : Option (Nat × Addr)} {σ σ2 : St} {e e2 : Env'} {p : Addr} {od : Obj} {u : HO}
theorem Rel.lock (R : Rel C F G0 G H pn σ e) (hp : G p = some u) (hu : IsDk u) : Rel C (lkAt p od u F) (lkAt p od u G0) (lkAt p od u G) (upd H p (.frz od u)) pn σ e := by
  have hH : H p = some u := R.gh _ _ hp
  have T : Trd G (lkAt p od u G) := trd_lock hp hu
  refine ⟨fun b o h => ?_, fun b o h => ?_, fun b h hn => ?_, fun P hP => ?_, fun i b hb => ?_, R.ap, R.pi, R.ln⟩
  · by_cases z : b = p
    · subst z
      rw [upd_same]
      cases hF : F b with
      | none => rw [lk_none hF] at h; cases h
      | some x => rw [lk_some hF] at h; exact h
    · rw [lk_ne z] at h
      rw [upd_ne z]
      exact R.fh _ _ h
  · by_cases z : b = p
    · subst z
      rw [upd_same]
      rw [lk_some hp] at h
      exact h
    · rw [lk_ne z] at h
      rw [upd_ne z]
      exact R.gh _ _ h
  · by_cases z : b = p
    · subst z
      have hF : F b ≠ none := fun z => h (lk_none z)
      obtain ⟨x, hx⟩ := Option.ne_none_iff_exists'.mp hF
      have hx2 := R.fh _ _ hx
      rw [hH] at hx2
      cases hx2
      have g := R.gf b hF (by rw [hx]; exact hu.nt)
      rw [lk_some hp, lk_some (by rw [← g]; exact hp)]
    · rw [lk_ne z] at h hn
      rw [lk_ne z, lk_ne z]
      exact R.gf b h hn
  · obtain ⟨t1, t2, t3⟩ := R.tb P hP
    have ne := hu.ntab hH t1
    obtain ⟨ps, h1, h2⟩ := t1
    exact ⟨⟨ps, by rw [upd_ne ne]; exact h1, h2⟩, lk_free.mpr t2, lk_free.mpr t3⟩
  · have q := R.sl i b hb
    cases b with
    | un => trivial
    | im d =>
      obtain ⟨v, k1, k2⟩ := q
      exact ⟨v, k1, k2.trd T _ _⟩
    | ow d =>
      obtain ⟨p', o', k0, k1, k2, k3, k4, k5⟩ := q
      exact ⟨p', o', k0, lk_free.mpr k1, lk_free.mpr k2, k3, by rw [upd_ne (fun z => by rw [z, hp] at k1; cases k1)]; exact k4, k5.trd T⟩
    | io d =>
      obtain ⟨p', o', k0, k1, k2, k3, k4, k5⟩ := q
      exact ⟨p', o', k0, lk_free.mpr k1, lk_free.mpr k2, k3, by rw [upd_ne (fun z => by rw [z, hp] at k1; cases k1)]; exact k4, k5.trd T⟩
theorem Rel.unlock (R : Rel C F G0 G H pn σ e) (hp : G p = some u) (hu : IsDk u) (R2 : Rel C (lkAt p od u F) (lkAt p od u G0) G2 H2 pn σ2 e2) (s : Same (lkAt p od u G) G2) :
    G2 p = some (.frz od u) ∧ H2 p = some (.frz od u) ∧ Rel C F G0 (upd G2 p u) (upd H2 p u) pn σ2 e2 ∧ Same G (upd G2 p u) := by
  have g2 : G2 p = some (.frz od u) := s _ _ (lk_some hp)
  have h2 : H2 p = some (.frz od u) := R2.gh _ _ g2
  have hH : H p = some u := R.gh _ _ hp
  have T : Trd G2 (upd G2 p u) := trd_unlock g2
  refine ⟨g2, h2, ⟨fun b o h => ?_, fun b o h => ?_, fun b h hn => ?_, fun P hP => ?_, fun i b hb => ?_, R2.ap, R2.pi, R2.ln⟩, fun b o h => ?_⟩
  · by_cases z : b = p
    · subst z
      have := R.fh _ _ h
      rw [hH] at this
      rw [upd_same]
      exact this
    · rw [upd_ne z]
      exact R2.fh _ _ (by rw [lk_ne z]; exact h)
  · by_cases z : b = p
    · subst z
      rw [upd_same] at h ⊢
      exact h
    · rw [upd_ne z] at h ⊢
      exact R2.gh _ _ h
  · by_cases z : b = p
    · subst z
      rw [upd_same, ← R.gf b h hn, hp]
    · rw [upd_ne z]
      have := R2.gf b (by rw [lk_ne z]; exact h) (by rw [lk_ne z]; exact hn)
      rw [this, lk_ne z]
  · obtain ⟨t1, t2, t3⟩ := R2.tb P hP
    have ne : P ≠ p := fun z => by
      rw [z, g2] at t2
      cases t2
    obtain ⟨ps, k1, k2⟩ := t1
    exact ⟨⟨ps, by rw [upd_ne ne]; exact k1, k2⟩, by rw [upd_ne ne]; exact t2, lk_free.mp t3⟩
  · have q := R2.sl i b hb
    cases b with
    | un => trivial
    | im d =>
      obtain ⟨v, k1, k2⟩ := q
      exact ⟨v, k1, k2.trd T _ _⟩
    | ow d =>
      obtain ⟨p', o', k0, k1, k2, k3, k4, k5⟩ := q
      have ne : p' ≠ p := fun z => by rw [z, g2] at k1; cases k1
      exact ⟨p', o', k0, by rw [upd_ne ne]; exact k1, lk_free.mp k2, k3, by rw [upd_ne ne]; exact k4, k5.trd T⟩
    | io d =>
      obtain ⟨p', o', k0, k1, k2, k3, k4, k5⟩ := q
      have ne : p' ≠ p := fun z => by rw [z, g2] at k1; cases k1
      exact ⟨p', o', k0, by rw [upd_ne ne]; exact k1, lk_free.mp k2, k3, by rw [upd_ne ne]; exact k4, k5.trd T⟩
  · by_cases z : b = p
    · subst z
      rw [hp] at h
      rw [upd_same]
      exact h
    · rw [upd_ne z]
      exact s _ _ (by rw [lk_ne z]; exact h)
end
end Mi

/-! Loops and comprehensions over the keys of a dict that has a name. -/
namespace Mi
open PySem PySem.Spec PyProof.Rows L2 GxR
def keysF : List D → Option (List D)
  | [.dic ks _] => some (keysD ks)
  | _ => none
section
variable {X : Cx} {C : Cfg} {F G0 G G' H H' : Hp} {pn : Option (Nat × Addr)} {σ : St} {e e' : Env'} {a tgx elt : Expr} {pos : Pos} {s : S} {tg : Tg}
theorem walks_keys {p : Addr} {o : Obj} {kvs : List (Key × V)} (q : G p = some (.frz o (.dK kvs))) : Walks C G (Itk p o kvs) (kvs.map fun q => keyD q.1) where
  go := fun i G1 H hi s1 s2 => ⟨s2 _ _ (s1 _ _ q), by rw [List.length_map] at hi; exact hi⟩
  stop := fun i G1 H hi s1 s2 => ⟨s2 _ _ (s1 _ _ q), by rw [List.length_map] at hi; exact Nat.le_of_eq hi.symm⟩
  yld := fun i d G1 H H' x hd s1 s2 t y => by
    obtain ⟨rfl, k, v, hk, rfl⟩ := y
    refine ⟨G1, Grow.refl s2 t, ?_⟩
    rw [List.getElem?_map, hk] at hd
    cases hd
    cases k with
    | inl i => exact .int i
    | inr x =>
      obtain ⟨⟨l⟩⟩ := x
      exact .str l
theorem repL_keys : ∀ k : List Key, RepL C.K G (k.map kV) (k.map keyD)
  | [] => .nil
  | .inl i :: k => .cons (.int i) (repL_keys k)
  | .inr ⟨⟨l⟩⟩ :: k => .cons (.str l) (repL_keys k)
theorem walks_keysT {p : Addr} {o : Obj} {kvs : List (List Key × V)} (q : G p = some (.frz o (.dT kvs))) : Walks C G (Itkt p o kvs) (kvs.map fun q => D.tup (q.1.map keyD)) where
  go := fun i G1 H hi s1 s2 => ⟨s2 _ _ (s1 _ _ q), by rw [List.length_map] at hi; exact hi⟩
  stop := fun i G1 H hi s1 s2 => ⟨s2 _ _ (s1 _ _ q), by rw [List.length_map] at hi; exact Nat.le_of_eq hi.symm⟩
  yld := fun i d G1 H H' x hd s1 s2 t y => by
    obtain ⟨rfl, k, v, b, hk, rfl, hb⟩ := y
    rw [List.getElem?_map, hk] at hd
    cases hd
    have sg : Same G1 (upd G1 b (.tup (k.map kV))) := fun c u h => by
      by_cases z : c = b
      · subst z
        have := s2 _ _ h
        rw [hb] at this
        rw [upd_same]
        exact this
      · rw [upd_ne z]; exact h
    have sh : Same (upd G1 b (.tup (k.map kV))) H' := fun c u h => by
      by_cases z : c = b
      · subst z
        rw [upd_same] at h
        rw [hb]
        exact h
      · rw [upd_ne z] at h; exact s2 _ _ h
    refine ⟨_, ⟨sg, sh, fun _ _ _ => rfl, fun c h1 h2 => ?_, t⟩, .tup upd_same (repL_keys k)⟩
    rw [upd_ne (fun z => ?_)]
    subst z
    exact h2 _ hb
/-- the name's dict is locked -/
def tIK (C : Cfg) (i : Nat) : TI := fun σ H R => (∃ p od u, σ[i]? = some (some (.ref p)) ∧ H p = some (.frz od u)) ∧ tI C keysF [.var i] σ H R
/-- a name's thing, evaluated and known to all -/
theorem var_settled {i : Nat} {rs : List Rv} {e1 e2 : Env'} {ds : List D} {items : List D} (q1 : evs [.var i] e = some (rs, e1)) (q2 : settles e1 rs = some (ds, e2)) (q3 : keysF ds = some items) :
    ∃ ks vs, items = keysD ks ∧ ds = [.dic ks vs] ∧ ((e[i]? = some (.im (.dic ks vs)) ∧ e2 = e) ∨ (e[i]? = some (.ow (.dic ks vs)) ∧ e2 = e.set i (.im (.dic ks vs)))) := by
  obtain ⟨r, h1, rfl⟩ := tE_one (f := keysF) q1
  obtain ⟨d, h2, rfl⟩ := settles_one q2
  unfold keysF at q3
  split at q3
  · rename_i ks vs hz
    cases hz
    cases q3
    refine ⟨ks, vs, rfl, rfl, ?_⟩
    unfold ev at h1
    split at h1
    · rename_i d0 h0
      cases h1
      unfold Rv.settle at h2
      cases h2
      exact .inl ⟨h0, rfl⟩
    · rename_i d0 h0
      cases h1
      have h3 : (match e[i]? with
        | some (B.im d) => some (d, e)
        | some (B.ow d) => some (d, e.set i (.im d))
        | _ => none : Option (D × Env')) = some (.dic ks vs, e2) := h2
      rw [h0] at h3
      cases h3
      exact .inr ⟨h0, rfl⟩
    · rename_i d0 h0
      cases h1
      have h3 : (match e[i]? with
        | some (B.im d) => some (d, e)
        | some (B.ow d) => some (d, e.set i (.im d))
        | _ => none : Option (D × Env')) = some (.dic ks vs, e2) := h2
      rw [h0] at h3
      cases h3
    · cases h1
  · cases q3
theorem ci_keysL {i : Nat} (ha : PE X a (tVar i)) : PI X tgx a (tIK C i) := (pi_keys ha).imp fun σ H R q => by
  obtain ⟨⟨p, od, u, hp, hl⟩, F, G0, G, pn, e, rs, e1, ds, e2, items, R1, q1, q2, q3, k⟩ := q
  obtain ⟨ks, vs, rfl, rfl, h | h⟩ := var_settled q1 q2 q3
  · obtain ⟨h1, rfl⟩ := h
    obtain ⟨v, s1, s2⟩ := R1.sl i _ h1
    rw [hp] at s1
    cases s1
    refine ⟨.ref p, hp, ?_⟩
    cases s2 with
    | dK q e rr =>
      rcases q with q | ⟨o, q⟩
      · rw [R1.gh _ _ q] at hl; cases hl
      · subst e
        refine ⟨p, o, rfl, .inl ⟨_, R1.gh _ _ q, ?_⟩⟩
        refine k _ G H R1 (Same.refl G) ?_
        rw [isTK_K.2]
        exact walks_keys q
    | dT q e rr =>
      rcases q with q | ⟨o, q⟩
      · rw [R1.gh _ _ q] at hl; cases hl
      · subst e
        exact ⟨p, o, rfl, .inr ⟨_, R1.gh _ _ q, k _ G H R1 (Same.refl G) (walks_keysT q)⟩⟩
  · obtain ⟨h1, rfl⟩ := h
    obtain ⟨p', o, s1, _, _, _, s2, s3⟩ := R1.sl i _ h1
    rw [hp] at s1
    cases s1
    rw [hl] at s2
    cases s2
    cases s3
/-- the name's thing is known to all: such an environment does the same -/
theorem known_var {i : Nat} {ks vs : List D} (R : Rel C F G0 G H pn σ e) (h : e[i]? = some (.im (.dic ks vs)) ∨ e[i]? = some (.ow (.dic ks vs))) :
    ∃ G1 e2, Same G G1 ∧ Rel C F G0 G1 H pn σ e2 ∧ e2[i]? = some (.im (.dic ks vs)) ∧ (∃ rs, evs [.var i] e2 = some (rs, e2) ∧ settles e2 rs = some ([.dic ks vs], e2)) ∧ (∃ rs e1, evs [.var i] e = some (rs, e1) ∧ settles e1 rs = some ([.dic ks vs], e2)) := by
  have hk : ∀ {e : Env'}, e[i]? = some (.im (.dic ks vs)) → evs [.var i] e = some ([.pers (.dic ks vs)], e) ∧ settles e [.pers (.dic ks vs)] = some ([.dic ks vs], e) := fun {e} h => by
    constructor
    · unfold evs ev
      rw [h]
      unfold evs
      rfl
    · unfold settles Rv.settle settles
      rfl
  rcases h with h | h
  · obtain ⟨h1, h2⟩ := hk h
    exact ⟨G, e, Same.refl G, R, h, ⟨_, h1, h2⟩, ⟨_, _, h1, h2⟩⟩
  · obtain ⟨p, o, s1, _⟩ := R.sl i _ h
    obtain ⟨G1, k1, k2, k3⟩ := R.freeze s1 h
    have hi : i < e.length := (List.getElem?_eq_some_iff.mp h).1
    have h0 : (e.set i (.im (.dic ks vs)))[i]? = some (.im (.dic ks vs)) := List.getElem?_set_self hi
    obtain ⟨h1, h2⟩ := hk h0
    refine ⟨G1, _, k1, k2, h0, ⟨_, h1, h2⟩, [.bor i], e, ?_, ?_⟩
    · unfold evs ev
      rw [h]
      unfold evs
      rfl
    · unfold settles
      have : (Rv.bor i).settle e = some (.dic ks vs, e.set i (.im (.dic ks vs))) := by
        show (match e[i]? with
          | some (B.im d) => some (d, e)
          | some (B.ow d) => some (d, e.set i (.im d))
          | _ => none : Option (D × Env')) = _
        rw [h]
      rw [this]
      unfold settles
      rfl
/-- where the name's dict stands: locked, or free -/
theorem dict_at {i : Nat} {ks vs : List D} (R : Rel C F G0 G H pn σ e) (h : e[i]? = some (.im (.dic ks vs))) : ∃ p, σ[i]? = some (some (.ref p)) ∧ ((∃ od u, H p = some (.frz od u)) ∨ ∃ u, G p = some u ∧ IsDk u) := by
  obtain ⟨v, s1, s2⟩ := R.sl i _ h
  cases s2 with
  | dK q e rr =>
    rcases q with q | ⟨o, q⟩
    · exact ⟨_, s1, .inr ⟨_, q, .inl ⟨_, rfl⟩⟩⟩
    · exact ⟨_, s1, .inl ⟨_, _, R.gh _ _ q⟩⟩
  | dT q e rr =>
    rcases q with q | ⟨o, q⟩
    · exact ⟨_, s1, .inr ⟨_, q, .inr ⟨_, rfl⟩⟩⟩
    · exact ⟨_, s1, .inl ⟨_, _, R.gh _ _ q⟩⟩
theorem tFor_loc {i : Nat} {g : TG} {tb : TS} {D : Ends} {σ : St} {H : Hp} {p : Addr} {od : Obj} {u : HO} (hp : σ[i]? = some (some (.ref p))) (hl : H p = some (.frz od u)) (q : tFor (tI C keysF [.var i]) g tb D σ H) : tFor (tIK C i) g tb D σ H := ⟨⟨p, od, u, hp, hl⟩, q⟩
/-- the ends behind the lock -/
theorem OutOk.lock {p : Addr} {od : Obj} {u : HO} {D : Ends} {o : Out} (R : Rel C F G0 G H pn σ e) (hp : G p = some u) (hu : IsDk u) (k : OutOk C F G0 G pn D o) : OutOk C (lkAt p od u F) (lkAt p od u G0) (lkAt p od u G) pn
    ⟨fun σ' H' => H' p = some (.frz od u) ∧ D.nx σ' (upd H' p u), fun v H' => H' p = some (.frz od u) ∧ D.rt v (upd H' p u), fun σ' H' => H' p = some (.frz od u) ∧ D.bk σ' (upd H' p u), fun σ' H' => H' p = some (.frz od u) ∧ D.ct σ' (upd H' p u)⟩ o := by
  have go : ∀ {σ' : St} {G2 H' : Hp} {e' : Env'}, Rel C (lkAt p od u F) (lkAt p od u G0) G2 H' pn σ' e' → Same (lkAt p od u G) G2 → G2 p = some (.frz od u) ∧ H' p = some (.frz od u) ∧ Rel C F G0 (upd G2 p u) (upd H' p u) pn σ' e' ∧ Same G (upd G2 p u) := fun R2 s => R.unlock hp hu R2 s
  cases o with
  | nx e' => exact fun σ' G2 H' R2 s => ⟨(go R2 s).2.1, k σ' _ _ (go R2 s).2.2.1 (go R2 s).2.2.2⟩
  | bk e' => exact fun σ' G2 H' R2 s => ⟨(go R2 s).2.1, k σ' _ _ (go R2 s).2.2.1 (go R2 s).2.2.2⟩
  | ct e' => exact fun σ' G2 H' R2 s => ⟨(go R2 s).2.1, k σ' _ _ (go R2 s).2.2.1 (go R2 s).2.2.2⟩
  | rt d e' => exact fun v σ' G2 H' R2 s rv => ⟨(go R2 s).2.1, k v σ' _ _ (go R2 s).2.2.1 (go R2 s).2.2.2 (rv.trd (trd_unlock (go R2 s).1) _ _)⟩
  | ro d e' =>
    intro q o σ' G2 H' R2 s h1 h3 h4 h5 h6
    obtain ⟨g2, h2, R3, s3⟩ := go R2 s
    have ne : q ≠ p := fun z => by rw [z, g2] at h1; cases h1
    exact ⟨h2, k q o σ' _ _ R3 s3 (by rw [upd_ne ne]; exact h1) (lk_free.mp h3) h4 (by rw [upd_ne ne]; exact h5) (h6.trd (trd_unlock g2))⟩
theorem tLc_loc {i : Nat} {g : TG} {tt : TT} {te : TE} {vs : List Nat} {Q : VK} {σ : St} {H : Hp} {p : Addr} {od : Obj} {u : HO} (hp : σ[i]? = some (some (.ref p))) (hl : H p = some (.frz od u)) (q : tLc (tI C keysF [.var i]) g tt te vs σ H Q) : tLc (tIK C i) g tt te vs σ H Q := ⟨⟨p, od, u, hp, hl⟩, q⟩
theorem for_keys {i : Nat} {D : Ends} {σ : St} {H : Hp} (q : tS C (.forr keysF [.var i] tg s) D σ H) : tLock (tFor (tIK C i) (tG C tg) (tS C s)) D σ H ∨ tFor (tIK C i) (tG C tg) (tS C s) D σ H := by
  obtain ⟨F, G0, G, pn, e, o, R, he, k⟩ := q
  have he0 := he
  unfold ex at he
  split at he
  · rename_i rs e1 q1
    split at he
    · rename_i ds e2 q2
      split at he
      · rename_i items q3
        obtain ⟨ks, vs, rfl, rfl, h⟩ := var_settled q1 q2 q3
        obtain ⟨G1, e3, s1, R3, h3, ⟨rs3, q4, q5⟩, ⟨rs4, e4, q6, q7⟩⟩ := known_var R (h.elim (fun h => .inl h.1) fun h => .inr h.1)
        have ee : e3 = e2 := by
          rw [q1] at q6
          cases q6
          rw [q2] at q7
          cases q7
          rfl
        subst ee
        have hx : ex (.forr keysF [.var i] tg s) e3 = some o := by
          unfold ex
          rw [q4]
          dsimp only
          rw [q5]
          exact he
        have k1 := k.mono s1
        obtain ⟨p, hp, hl | ⟨u, gp, hu⟩⟩ := dict_at R3 h3
        · obtain ⟨od, u, hl⟩ := hl
          exact .inr (tFor_loc hp hl (for_of (fun _ _ _ h => h) ⟨F, G0, G1, pn, e3, o, R3, hx, k1⟩))
        · refine .inl ⟨p, u, R3.gh _ _ gp, hu.mut, fun od => ?_⟩
          exact tFor_loc hp upd_same (for_of (fun _ _ _ h => h) ⟨_, _, _, pn, e3, o, R3.lock gp hu, hx, k1.lock R3 gp hu⟩)
      · cases he
    · cases he
  · cases he
theorem ps_orL {st : Stmt} {t : TS} (h : PS X st t) : PS X st (fun D σ H => tLock t D σ H ∨ t D σ H) := ⟨fun pins s σ H D I q => q.elim ((ps_lock h).run pins s σ H D I) (h.run pins s σ H D I)⟩
theorem pe_orL {a : Expr} {t : TE} (h : PE X a t) : PE X a (fun σ H Q => tLockE t σ H Q ∨ t σ H Q) := ⟨fun pins s σ H Q I q => q.elim ((pe_lock h).run pins s σ H Q I) (h.run pins s σ H Q I)⟩
theorem cs_forK {i : Nat} {body : List Stmt} (hp : PassesOwn (model X.prog X.w) X.A X.env X.xe) (hc : X.calm = true) (ha : PE X a (tVar i)) (hg : PG X tgx (tG C tg)) (hb : PSs X body (tS C s))
    (hs : ∀ x, foldedSetIterable a X.env x = pure x := by intro _; rfl) : PS X (.For tgx a body [] pos) (tS C (.forr keysF [.var i] tg s)) := (ps_orL (ps_for hp hc (ci_keysL ha) hg hb hs)).imp fun D σ H q => for_keys q
/-! ### comprehensions -/
variable {ifs : List Expr} {scope : Scope} {own : List (Str × Nat)} {cs : List Ex} {x : Ex}
theorem lc_keys {i : Nat} {vs : List Nat} (hsl : ∀ i ∈ tg.slots, i ∈ vs) {σ : St} {H : Hp} {Q : VK} (q : tF C (.lc keysF [.var i] vs tg cs x) σ H Q) :
    tLockE (tLc (tIK C i) (tG C tg) (tTs C cs) (tE C x) vs) σ H Q ∨ tLc (tIK C i) (tG C tg) (tTs C cs) (tE C x) vs σ H Q := by
  obtain ⟨F, G0, G, pn, e, dd, e', R, he, k⟩ := q
  obtain ⟨rs, e1, ds, e2, items, ys, e7, q1, q2, q3, hs, q4, hz, q5, q6⟩ := ev_lc he
  obtain ⟨ks, vs0, rfl, rfl, h⟩ := var_settled q1 q2 q3
  obtain ⟨G1, e3, s1, R3, h3, ⟨rs3, q7, q8⟩, ⟨rs4, e4, q9, q10⟩⟩ := known_var R (h.elim (fun h => .inl h.1) fun h => .inr h.1)
  have ee : e3 = e2 := by
    rw [q1] at q9
    cases q9
    rw [q2] at q10
    cases q10
    rfl
  subst ee
  have hx : ev (.lc keysF [.var i] vs tg cs x) e3 = some (.pers dd, e') := by
    have he2 := he
    unfold ev at he2 ⊢
    rw [q1] at he2
    rw [q7]
    dsimp only at he2 ⊢
    rw [q2] at he2
    rw [q8]
    exact he2
  have k1 : ∀ p o G' H', Rel C F G0 G' H' pn σ e' → Same G1 G' → G' p = none → F p = none → p ∉ C.tt → (∀ i, ¬ Own σ e' i p) → H' p = some o → RepO C.K G' o dd → Q (.ref p) H' := fun p o G' H' R' s' => k p o G' H' R' (s1.trans s')
  obtain ⟨p, hp, hl | ⟨u, gp, hu⟩⟩ := dict_at R3 h3
  · obtain ⟨od, u, hl⟩ := hl
    exact .inr (tLc_loc hp hl (tLc_of hsl ⟨F, G0, G1, pn, e3, dd, e', R3, hx, k1⟩))
  · refine .inl ⟨p, u, R3.gh _ _ gp, hu.mut, fun od => tLc_loc hp upd_same (tLc_of hsl ⟨_, _, _, pn, e3, dd, e', R3.lock gp hu, hx, fun q o G2 H2 R2 s2 j1 j2 j3 j4 j5 j6 => ?_⟩)⟩
    obtain ⟨g2, h2, R4, s4⟩ := R3.unlock gp hu R2 s2
    have ne : q ≠ p := fun z => by rw [z, g2] at j1; cases j1
    exact ⟨h2, k1 q o _ _ R4 s4 (by rw [upd_ne ne]; exact j1) (lk_free.mp j2) j3 j4 (by rw [upd_ne ne]; exact j5) (j6.trd (trd_unlock g2))⟩
theorem cf_lcK {i : Nat} (hc : X.calm = true) (hN : X.N.Nodup) (ha : PE X a (tVar i)) (ok : BlkOk X.N X.env.scope scope own)
    (hg : ∀ (s : Shared) (H : Hp) (Cc : Addr) (cl : List (Str × Addr)) (fp : List Addr), PG (X.blk s H scope (compEnvC scope cl Cc X.env) fp) tgx (tG C tg)) (ht : ∀ (s : Shared) (H : Hp) (Cc : Addr) (cl : List (Str × Addr)) (fp : List Addr), PTs (X.blk s H scope (compEnvC scope cl Cc X.env) fp) ifs (tTs C cs))
    (he : ∀ (s : Shared) (H : Hp) (Cc : Addr) (cl : List (Str × Addr)) (fp : List Addr), PE (X.blk s H scope (compEnvC scope cl Cc X.env) fp) elt (tE C x)) (hsl : (tg.slots.all fun i => (own.map (·.2)).contains i) = true) (hs : ∀ x, foldedSetIterable a X.env x = pure x := by intro _; rfl) :
    PE X (.ListComp elt [⟨tgx, a, ifs, 0⟩] scope pos) (tF C (.lc keysF [.var i] (own.map (·.2)) tg cs x)) := (pe_orL (pe_lc hc hN (ci_keysL ha) ok hg ht he hs)).imp fun σ H Q q => lc_keys (fun i hi => by
  have := List.all_eq_true.mp hsl i hi
  exact List.contains_iff_mem.mp this) q
end
end Mi

/-! sorted(d), list(d), tuple(d). -/
namespace Mi
open PySem PySem.Spec PyProof.Rows L2 GxR
/-- the keys of a dict, as values -/
def DKeys (H : Hp) (a : Addr) (ks : List V) : Prop := (∃ kvs : List (Key × V), Rd H a (.dK kvs) ∧ ks = kvs.map fun p => kV p.1) ∨ ∃ (kvs : List (List Key × V)) (bs : List Addr), Rd H a (.dT kvs) ∧ IsKeys H kvs bs ∧ ks = bs.map V.ref
section
variable {X : Cx} {pins : List (Addr × Obj)} {σ : St} {H : Hp} {s : Shared} {a : Addr}
theorem dict_src (I : Inv X pins σ H s) (hd : IsD H a) : ∃ (n : Nat) (P : Nat → Value → Prop) (OK : Heap → Prop), PySem.W.KdlSrc X.prog X.w "dict" a a n P OK ∧ OK s.heap ∧ n ≤ sizeLine ∧ ∀ acc : Array Value, ItemsOf P acc n → ∃ ks, DKeys H a ks ∧ Vals ks acc.toList := by
  rcases hd with ⟨kvs, hd⟩ | ⟨kvs, hd⟩
  · obtain ⟨z, lo, vs, rel, dd⟩ := dk_rd I.hok hd
    obtain ⟨ep, hat⟩ := dd.dictAt
    have hl : kvs.length = vs.length := rel.length
    refine ⟨_, _, _, PySem.W.kdl_dict (knd := mixKind X.prog X.w) (kvs := vs) (ep := ep) lo, hat, by omega, fun acc hacc => ⟨_, .inl ⟨kvs, hd, rfl⟩, ?_⟩⟩
    have e : (kvs.map fun p => kV p.1) = vs.map fun p => kV p.1 := by
      have := congrArg (List.map kV) rel.keys
      rw [List.map_map, List.map_map] at this
      exact this
    rw [e]
    exact keys_at (by rw [Array.length_toList, hacc.1]) fun j v hj => by
      obtain ⟨k, x, e1, e2⟩ := hacc.2 j v (by rw [← Array.getElem?_toList]; exact hj)
      exact ⟨k, x, e1, e2⟩
  · obtain ⟨z, hs, ks, pr, o, es, ep, ho, hx, hdt, he, hn⟩ := (show ObjOk X.prog X.w H s.heap a (.dT kvs) from hd.ok I.hok)
    have l1 : es.size = ks.length := size_of_entries he
    have l2 : kvs.length = ks.length := Paired.length pr
    refine ⟨_, _, _, kdl_raw hs hx hdt, ho, by omega, fun acc' it => ⟨_, .inr ⟨kvs, _, hd, isKeys_of pr, rfl⟩, ?_⟩⟩
    have ea : acc'.toList = ks.map fun x => Value.ref x.2.1 := by
      have hl : acc'.toList.length = ks.length := by rw [Array.length_toList, it.1]; exact l1
      apply List.ext_getElem?
      intro j
      rw [List.getElem?_map]
      cases hj : acc'.toList[j]? with
      | none =>
        have h1 := List.getElem?_eq_none_iff.mp hj
        rw [List.getElem?_eq_none (by omega)]
        all_goals rfl
      | some v =>
        obtain ⟨en, hen, hv⟩ := it.2 j v (by rw [← Array.getElem?_toList]; exact hj)
        have qe := entry_at he j
        rw [hen] at qe
        cases hb : ks[j]? with
        | none =>
          rw [hb] at qe
          exact nomatch (show some en = none from qe)
        | some b =>
          rw [hb] at qe
          have e2 : en = entryOfKey (tupleKind (mixKind X.prog X.w)) b := Option.some.inj qe
          rw [hv, e2]
          all_goals rfl
    have eb : acc'.toList = (ks.map fun x => x.2.1).map Value.ref := by rw [ea, List.map_map]; all_goals rfl
    rw [eb]
    exact vals_refs _
/-- list(d) -/
def rListDi : List V → Hp → VK → Prop := fun xs H Q => ∃ a, xs = [V.ref a] ∧ IsD H a ∧ ∀ ks p, DKeys H a ks → H p = none → Q (.ref p) (upd H p (.lst ks))
theorem call_listDi (hc : X.calm = true) : CallR X (.type "list") rListDi := by
  intro pins s σ H xs us Q I r h
  obtain ⟨d, rfl, hd, q⟩ := h
  obtain ⟨u, rfl, rx⟩ := r.one
  cases rx
  obtain ⟨n, P, OK, src, ok, hz, hk⟩ := dict_src I hd
  refine PySem.W.kdl_call src (I.ok.hd hc) ok hz fun h' tk acc' c' kp e it => ?_
  obtain ⟨ks, dk, rv⟩ := hk acc' it
  have hl : ks.length ≤ sizeLine := by rw [rv.length, Array.length_toList, it.1]; exact hz
  refine ⟨.ref s.heap.objs.size, _, I.laid (t' := tk) (o := .lst ks) kp (Nat.le_refl _) ?_, rfl, q _ _ dk (I.hok.fresh (Nat.le_refl _))⟩
  exact ⟨hl, acc'.toList, c', rv, by rw [Array.toArray_toList]; exact e⟩
/-- sorted(d) -/
def rSortedDi (K : Frag) : List V → Hp → VK → Prop := fun xs H Q => ∃ a, xs = [V.ref a] ∧ IsD H a ∧ ∀ ks, DKeys H a ks → ∃ ps : List (V × D), ps.map (·.1) = ks ∧ (∀ p ∈ ps, Dp K H p.1 p.2.py ∧ p.2.shp 16 = true) ∧ W.AllAlike (ps.map fun p => p.2.py) ∧ W.Sortable (ps.map fun p => p.2.py) ∧
  ∀ p, H p = none → Q (.ref p) (upd H p (.lst ((ps.mergeSort (W.dataLe false fun p => p.2.py)).map (·.1))))
theorem cr_sortedDi (hcalm : X.calm = true) (hu : X.A.units + 100 < cLine) : CallR X (.builtin "sorted") (rSortedDi X.K) := by
  intro pins s σ H xs us Q I r h
  obtain ⟨d, rfl, hd, q⟩ := h
  obtain ⟨u, rfl, rx⟩ := r.one
  cases rx
  obtain ⟨n, P, OK, src, ok, hz, hk⟩ := dict_src I hd
  refine Calls.call_function_entry PyProof.Rows.kind_sorted PyProof.Rows.plain_sorted PyProof.Rows.entry_sorted (PyProof.Rows.args_sorted1 _) ?_
  unfold Builtin.«sorted»
  refine wpAny_bind (m := checkCount "sorted" 1 1 _) (wpAny_pure ?_)
  refine wpAny_bind (PySem.W.kdu_collect (A := X.A.in1) src (I.ok.hd hcalm) ok hz fun h' tk acc hkp hacc => ?_)
  obtain ⟨ks, dk, rv⟩ := hk acc hacc
  obtain ⟨ps, e1, hp, h1, h2, q⟩ := q ks dk
  subst e1
  have I1 : Inv X pins σ H { s with heap := h', toks := tk } := I.kept hkp
  have hal : acc.toList.length = ps.length := by rw [← rv.length, List.length_map]
  have hz' : ps.length ≤ sizeLine := by rw [← hal, Array.length_toList, hacc.1]; exact hz
  refine wpAny_bind (wpAny_newList ?_ (by rw [hal]; exact hz'))
  have hoL : (h'.push (seqObj "list" acc.toList.toArray 0)).get? h'.objs.size = some (seqObj "list" acc.toList.toArray 0) := Heap.get?_push_size _ rfl
  show wpAny _ _ _ _ _ { s with heap := h'.push (seqObj "list" acc.toList.toArray 0), toks := tk }
  have kp2 : ∀ (b : Addr) (o : Obj), h'.get? b = some o → (W.sortingHeap (h'.push (seqObj "list" acc.toList.toArray 0)) h'.objs.size acc.toList).get? b = some o := fun b o z => by
    have hb : b < h'.objs.size := Heap.lt_size z
    rw [W.sortingHeap_old (Nat.ne_of_lt hb) (Heap.get?_push_of_some _ z)]
  have er : W.EachIs (fun v (p : V × D) => ∃ as, Reads (W.sortingHeap (h'.push (seqObj "list" acc.toList.toArray 0)) h'.objs.size acc.toList) v p.2.py as) acc.toList ps := each_of (K := X.K) rv fun p hp' u hu => by
    obtain ⟨as, hr⟩ := Dp.reads I1 _ _ u (hp p hp').1 hu
    exact ⟨as, Reads.keeps kp2 hr⟩
  have ee : W.EachIs (fun u (p : V × D) => RelV p.1 u) acc.toList ps := each_of (K := X.K) rv fun p _ u hu => hu
  refine wpAny_bind (wpAny_holding (wpAny_call_entry PyProof.Rows.slot_list_sort ⟨_, hoL, rfl⟩ PyProof.Rows.entry_list_sort
    (W.list_sort_vals (κ := W.dataKind (W.sortingHeap (h'.push (seqObj "list" acc.toList.toArray 0)) h'.objs.size acc.toList) (ps.map fun p => p.2.py)) (s := { s with heap := h'.push (seqObj "list" acc.toList.toArray 0), toks := tk }) hoL
      (W.SortsAt.data (s := { s with heap := W.sortingHeap (h'.push (seqObj "list" acc.toList.toArray 0)) h'.objs.size acc.toList, toks := tk }) (W.each_map (R := fun v d => ∃ as, Reads (W.sortingHeap (h'.push (seqObj "list" acc.toList.toArray 0)) h'.objs.size acc.toList) v d as) (fun p : V × D => p.2.py) er) h1 h2 (W.bound_map fun p hp' => ?_)) (by rw [hal]; exact hz') ⟨.none, rfl, ?_⟩)
    (PyProof.Rows.args_list_sort _)))
  · have := (shp_can 16 p.2 (hp p hp').2).2
    show X.A.units + 1 + 1 + p.2.py.depth < cLine
    omega
  · have ho2 := W.sortVals_data (R := fun u (p : V × D) => RelV p.1 u) (enc := fun p : V × D => p.2.py) false ee er h1
    obtain ⟨e', he'⟩ := PyProof.Rows.sortedHeap_at (vs := acc.toList) hoL
    have hlen : ((ps.mergeSort (W.dataLe false fun p => p.2.py)).map (·.1)).length ≤ sizeLine := by
      rw [List.length_map, List.length_mergeSort]; exact hz'
    refine wpAny_pure ⟨_, rfl, .ref h'.objs.size, upd H h'.objs.size (.lst _), I1.laid (t' := tk) (fun b u e => ?_) (Nat.le_refl _)
      (show ObjOk X.prog X.w _ _ _ (.lst ((ps.mergeSort (W.dataLe false fun p => p.2.py)).map (·.1))) from ⟨hlen, _, e', vals_each ho2, he'⟩), rfl, q _ (I1.hok.fresh (Nat.le_refl _))⟩
    have hb : b < h'.objs.size := Heap.lt_size e
    rw [PyProof.Rows.sortedHeap_old (Nat.ne_of_lt hb) (by rw [size_push']; exact Nat.lt_succ_of_lt hb)]
    exact Heap.get?_push_of_some _ e
end
section
variable {X : Cx} {C : Cfg} {F G0 G H : Hp} {pn : Option (Nat × Addr)} {σ : St} {e e' : Env'} {a : Addr}
/-- all tuples of H are known -/
def learn (G H : Hp) : Hp := fun b => match H b with
  | some (.tup xs) => some (.tup xs)
  | _ => G b
theorem learn_tup {b : Addr} {xs : List V} (h : H b = some (.tup xs)) : learn G H b = some (.tup xs) := by
  unfold learn
  rw [h]
theorem learn_not {b : Addr} (h : NT (H b)) : learn G H b = G b := by
  unfold learn
  split
  · rename_i xs z
    exact absurd z (h xs)
  · rfl
theorem grow_learn (s : Same G H) (t : ∀ P ∈ C.tt, TabG H P) : Grow C G H (learn G H) H := by
  refine ⟨fun b u h => ?_, fun b u h => ?_, fun _ _ _ => rfl, fun b _ hn => learn_not hn, t⟩
  · by_cases z : NT (H b)
    · rw [learn_not z]; exact h
    · have h2 := s _ _ h
      unfold NT at z
      have ⟨xs, hx⟩ : ∃ xs, H b = some (.tup xs) := Classical.byContradiction fun w => z fun xs e => w ⟨xs, e⟩
      rw [learn_tup hx, ← hx, h2]
  · by_cases z : NT (H b)
    · rw [learn_not z] at h; exact s _ _ h
    · unfold NT at z
      have ⟨xs, hx⟩ : ∃ xs, H b = some (.tup xs) := Classical.byContradiction fun w => z fun xs e => w ⟨xs, e⟩
      rw [learn_tup hx] at h
      rw [hx]; exact h
theorem rd_inj {u w : HO} (h1 : Rd H a u) (h2 : Rd H a w) (hu : IsDk u) (hw : IsDk w) : u = w := by
  have ne : ∀ {o : Obj} {x y : HO}, IsDk x → x = .frz o y → False := fun {o x y} h z => by
    subst z
    rcases h with ⟨k, h⟩ | ⟨k, h⟩ <;> cases h
  rcases h1 with h1 | ⟨o1, h1⟩ <;> rcases h2 with h2 | ⟨o2, h2⟩ <;> rw [h1] at h2 <;> have h3 := Option.some.inj h2
  · exact h3
  · exact (ne hu h3).elim
  · exact (ne hw h3.symm).elim
  · cases h3
    rfl
theorem dkeys_rep {v : V} {ks vs : List D} {kv : List V} (r : RepT C.K G H v (.dic ks vs)) (hv : v = .ref a) (d : DKeys H a kv) : RepL C.K (learn G H) kv (keysD ks) := by
  subst hv
  cases r with
  | dK q e rr =>
    rename_i kvs
    subst e
    rw [isTK_K.2]
    rcases d with ⟨kvs2, h, rfl⟩ | ⟨kvs2, bs, h, _, rfl⟩
    · cases rd_inj q h (.inl ⟨_, rfl⟩) (.inl ⟨_, rfl⟩)
      have := repL_keys (C := C) (G := learn G H) (kvs.map (·.1))
      rw [List.map_map, List.map_map] at this
      exact this
    · cases rd_inj q h (.inl ⟨_, rfl⟩) (.inr ⟨_, rfl⟩)
  | dT q e rr =>
    rename_i kvs
    subst e
    rcases d with ⟨kvs2, h, rfl⟩ | ⟨kvs2, bs, h, hk, rfl⟩
    · cases rd_inj q h (.inr ⟨_, rfl⟩) (.inl ⟨_, rfl⟩)
    · cases rd_inj q h (.inr ⟨_, rfl⟩) (.inr ⟨_, rfl⟩)
      show RepL C.K (learn G H) (bs.map V.ref) (kvs.map fun q => D.tup (q.1.map keyD))
      clear q h rr
      unfold IsKeys at hk
      induction hk with
      | nil => exact .nil
      | cons h t ih => exact .cons (.tup (learn_tup h) (repL_keys _)) ih
def OkNG (C : Cfg) (r : List V → Hp → VK → Prop) (f : List D → Option D) : Prop := ∀ (vs : List V) (ds : List D) (d : D) (G H : Hp) (Q : VK), Same G H → (∀ P ∈ C.tt, TabG H P) → RepTs C.K G H vs ds → f ds = some d →
  (∀ p o G1, Grow C G H G1 H → H p = none → RepO C.K G1 o d → Q (.ref p) (upd H p o)) → r vs H Q
theorem OkNF.g {r : List V → Hp → VK → Prop} {f : List D → Option D} (h : OkNF C r f) : OkNG C r f := fun vs ds d G H Q s t rr e k => h vs ds d G H Q s t rr e fun p o hp r => k p o G (Grow.refl s t) hp r
theorem tF_opG {r : List V → Hp → VK → Prop} {f : List D → Option D} (ok : OkNG C r f) {xs : List Ex} {σ : St} {H : Hp} {Q : VK} (q : tF C (.op f xs) σ H Q) : tA C xs σ H fun vs H1 => r vs H1 Q := by
  obtain ⟨F, G0, G, pn, e, d0, e', R, he, k⟩ := q
  obtain ⟨rs, ds, d, q1, q2, q3, q4⟩ := ev_op he
  cases q4
  exact ⟨F, G0, G, pn, e, rs, e', R, q1, fun vs G1 H1 R1 s1 r1 => ok vs ds _ G1 H1 Q R1.gh R1.tabs (R1.gets r1 q2) q3 fun p o G2 g hp ro => own_of_new (R1.grow g) (s1.trans g.gg) k p o hp ro⟩
variable {nm : Str} {p : Pos} {es : List Expr} {xs : List Ex} {pos : Pos}
def sortA : List D → Option D
  | [.dic ks _] => (sortL (keysD ks)).map D.lst
  | ds => sortF ds
def listA : List D → Option D
  | [.dic ks _] => some (.lst (keysD ks))
  | ds => listF1 ds
def rSortedA (K : Frag) : List V → Hp → VK → Prop := fun vs H Q => rSortedD K vs H Q ∨ rSortedDi K vs H Q
theorem cr_sortedA (hc : X.calm = true) (hu : X.A.units + 100 < cLine) : CallR X (.builtin "sorted") (rSortedA X.K) := (cr_sortedD hu).or (cr_sortedDi hc hu)
theorem isD_of {v : V} {ks vs : List D} (r : RepT C.K G H v (.dic ks vs)) : ∃ a, v = .ref a ∧ IsD H a := isD_rep r
theorem sortA_ok (hK : C.K = X.K) : OkNG C (rSortedA X.K) sortA := fun vs ds d G H Q s t r e k => by
  unfold sortA at e
  split at e
  · rename_i ks vs0
    cases hm : sortL (keysD ks) with
    | none => rw [hm] at e; cases e
    | some m =>
      rw [hm] at e
      cases e
      obtain ⟨v, rfl, rv⟩ := repTs_one r
      obtain ⟨a, rfl, hd⟩ := isD_rep rv
      refine .inr ⟨a, rfl, hd, fun kv dk => ?_⟩
      have rr := dkeys_rep rv rfl dk
      obtain ⟨rfl, h1, h2, h3⟩ := sortL_inv hm
      obtain ⟨z1, z2, z3⟩ := repL_zip rr
      have gl := grow_learn (C := C) s t
      have e2 : ((kv.zip (keysD ks)).map fun p => p.2.py) = (keysD ks).map D.py := by
        have e0 : ((kv.zip (keysD ks)).map fun p => p.2.py) = ((kv.zip (keysD ks)).map (·.2)).map D.py := by rw [List.map_map]; rfl
        rw [e0, z2]
      refine ⟨kv.zip (keysD ks), z1, fun p hp => ?_, by rw [e2]; exact h1, by rw [e2]; exact h2, fun p hp => ?_⟩
      · have hp2 : p.2 ∈ keysD ks := by rw [← z2]; exact List.mem_map.mpr ⟨p, hp, rfl⟩
        exact ⟨by rw [← hK]; exact rep_dp 16 _ _ (h3 _ hp2) ((z3 p hp).mono gl.gh), h3 _ hp2⟩
      · refine k p _ _ gl hp ?_
        have e1 : ((kv.zip (keysD ks)).mergeSort (W.dataLe false fun p => p.2.py)).map (·.2) = (keysD ks).mergeSort dle := by
          have := List.map_mergeSort (r := W.dataLe false fun (p : V × D) => p.2.py) (s := dle) (f := (·.2)) (l := kv.zip (keysD ks)) (fun a _ b _ => rfl)
          rw [this, z2]
        rw [← e1]
        exact .lst (repL_pairs fun p hp => z3 p (List.mem_mergeSort.mp hp))
  · exact .inl ((sortF_ok hK).g vs ds d G H Q s t r e k)
variable {ea : Expr}
theorem cf_callBG {id : String} {r : List V → Hp → VK → Prop} {f : List D → Option D} {nm : Str} {p : Pos} {es : List Expr} {xs : List Ex} (hc : CallR X (.builtin id) r) (ok : OkNG C r f) (hg : Gl X nm) (hm : X.mg nm = none) (hv : bootBuiltins nm = some (.builtin id)) (ha : PA X (ea :: es) (tA C xs))
    (hn : nm ≠ "__name__" := by decide) (hdb : (nm == ("__debug__" : Str)) = false := by decide)
    (he : starEach (ea :: es) X.env = (false, eval ea X.env) :: starEach es X.env := by rfl) (hpl : (backTo pos (starEach es X.env)).any (·.1) = false := by rfl) : PE X (.Call (.Name nm p) (ea :: es) [] pos) (tF C (.op f xs)) :=
  (pe_callB hc hg hm hv ha hn hdb he hpl).imp fun σ H Q q => tF_opG ok q
theorem cf_callTyG {T : String} {r : List V → Hp → VK → Prop} {f : List D → Option D} {nm : Str} {p : Pos} {es : List Expr} {xs : List Ex} (hc : CallR X (.type T) r) (ok : OkNG C r f) (hg : Gl X nm) (hm : X.mg nm = none) (hv : bootBuiltins nm = some (.type T)) (ha : PA X (ea :: es) (tA C xs))
    (hn : nm ≠ "__name__" := by decide) (hdb : (nm == ("__debug__" : Str)) = false := by decide)
    (he : starEach (ea :: es) X.env = (false, eval ea X.env) :: starEach es X.env := by rfl) (hpl : (backTo pos (starEach es X.env)).any (·.1) = false := by rfl) : PE X (.Call (.Name nm p) (ea :: es) [] pos) (tF C (.op f xs)) :=
  (pe_callTy hc hg hm hv ha hn hdb he hpl).imp fun σ H Q q => tF_opG ok q
def rListA (K : Frag) : List V → Hp → VK → Prop := fun xs H Q => (∃ p ys, xs = [.ref p] ∧ (SqL K H p ys ∨ SqT K H p ys) ∧ ∀ l, H l = none → Q (.ref l) (upd H l (.lst ys))) ∨ rListDi xs H Q
theorem call_listA (hc : X.calm = true) : CallR X (.type "list") (rListA X.K) := call_list_of.or (call_listDi hc)
theorem listA_ok : OkNG C (rListA X.K) listA := fun vs ds d G H Q s t r e k => by
  unfold listA at e
  split at e
  · rename_i ks vs0
    cases e
    obtain ⟨v, rfl, rv⟩ := repTs_one r
    obtain ⟨a, rfl, hd⟩ := isD_rep rv
    exact .inr ⟨a, rfl, hd, fun kv p dk hp => k p _ _ (grow_learn s t) hp (.lst (dkeys_rep rv rfl dk))⟩
  · exact .inl (listF1_ok.g vs ds d G H Q s t r e k)
end
end Mi

/-! a[k], b[l] = x; lists turned round. -/
namespace Mi
open PySem PySem.Spec PyProof.Rows L2 GxR
section
variable {X : Cx} {C : Cfg} {F G0 G G' H H' : Hp} {pn : Option (Nat × Addr)} {σ : St} {e e' : Env'} {a b c d tk tl : Expr} {x y z : Ex} {pos pos' : Pos} {st : Stmt}
theorem store_of {i : Nat} {f : D → D → D → Option D} {r : V → V → V → Hp → (Hp → Prop) → Prop} (ok : OkS C r f) {Q : St → Hp → Prop} {v : V} {dv : D} (R : Rel C F G0 G H pn σ e) (rv : Rep C.K G v dv) (h : storeD f i y dv e = some e')
    (k : ∀ G' H', Rel C F G0 G' H' pn σ e' → Same G G' → Q σ H') : gSub (tVar i) (tE C y) r v σ H Q := by
  unfold storeD at h
  split at h
  · rename_i h0
    split at h
    · rename_i r1 e1 q1
      split at h
      · rename_i kd e2 q2
        obtain ⟨p, hv⟩ : ∃ p, σ[i]? = some (some (.ref p)) := by
          unfold ownAt at h0
          split at h0
          · rename_i b hb
            have sl := R.sl i b hb
            cases b with
            | un => cases h0
            | im d => cases h0
            | ow d => obtain ⟨p, o, z, _⟩ := sl; exact ⟨p, z⟩
            | io d => obtain ⟨p, o, z, _⟩ := sl; exact ⟨p, z⟩
          · cases h0
        have fin : ∀ {b b' : B} {d0 d1 : Mi.D}, e2[i]? = some b → f d0 kd dv = some d1 → ((b = .ow d0 ∧ b' = .ow d1) ∨ (b = .io d0 ∧ b' = .io d1)) → e' = e2.set i b' → gSub (tVar i) (tE C y) r v σ H Q := fun {b b' d0 d1} hb hf hc ho => by
          subst ho
          refine ⟨.ref p, hv, F, G0, G, pn, e, r1, e1, R, q1, fun w G2 H2 R2 s2 rw' => ?_⟩
          obtain ⟨G3, s3, R3, r3, _⟩ := R2.settle rw' q2
          obtain ⟨o0, gp, tp, h1, r0⟩ : ∃ o0, G3 p = none ∧ p ∉ C.tt ∧ H2 p = some o0 ∧ RepO C.K G3 o0 d0 := by
            have sl := R3.sl i b hb
            rw [hv] at sl
            rcases hc with ⟨rfl, _⟩ | ⟨rfl, _⟩
            · obtain ⟨p', o, z, z1, _, z2⟩ := sl
              cases z
              exact ⟨o, z1, z2⟩
            · obtain ⟨p', o, z, z1, _, z2⟩ := sl
              cases z
              exact ⟨o, z1, z2⟩
          refine ok p w v o0 d0 kd dv d1 G3 H2 _ R3.gh h1 r0 r3 (rv.mono (s2.trans s3)) hf fun o' r' => ?_
          refine k G3 _ (R3.own (b := b) (b' := b') hv hb (by
            rcases hc with ⟨rfl, rfl⟩ | ⟨rfl, rfl⟩
            · exact ⟨_, _, .inl ⟨rfl, rfl⟩⟩
            · exact ⟨_, _, .inr ⟨rfl, rfl⟩⟩) (growO_upd R3.gh R3.tabs gp tp) upd_same (fun d' hd => by
            rcases hc with ⟨rfl, rfl⟩ | ⟨rfl, rfl⟩
            · cases hd; exact r'
            · cases hd; exact r')) (s2.trans s3)
        split at h
        · rename_i o0 hb
          split at h
          · rename_i o1 hf
            cases h
            exact fin hb hf (.inl ⟨rfl, rfl⟩) rfl
          · cases h
        · rename_i o0 hb
          split at h
          · rename_i o1 hf
            cases h
            exact fin hb hf (.inr ⟨rfl, rfl⟩) rfl
          · cases h
        · cases h
      · cases h
    · cases h
  · cases h
theorem sub2_of {i j : Nat} {l : Ex} {f : D → D → D → Option D} {r : V → V → V → Hp → (Hp → Prop) → Prop} (hK : C.K = X.K) (ok : OkS C r f) {D : Ends} {σ : St} {H : Hp} (q : tS C (.sub2 f i y j l x) D σ H) :
    tAsg (tE C x) (gTup X.K 2 (gCons (gSub (tVar i) (tE C y) r) (gCons (gSub (tVar j) (tE C l) r) gNil))) D σ H := by
  obtain ⟨F, G0, G, pn, e, o, R, he, k⟩ := q
  unfold ex at he
  split at he
  · rename_i r1 e1 q1
    split at he
    · rename_i dd e2 q2
      split at he
      · rename_i d1 d2
        split at he
        · rename_i e3 q3
          split at he
          · rename_i e4 q4
            cases he
            refine ⟨F, G0, G, pn, e, r1, e1, R, q1, fun v G1 H1 R1 s1 rv => ?_⟩
            obtain ⟨G2, s2, R2, r2, _⟩ := R1.settle rv q2
            cases r2 with
            | tup qt rl =>
              rename_i p0 xs
              cases rl with
              | cons ra rl =>
                cases rl with
                | cons rb rl =>
                  cases rl
                  refine ⟨p0, _, rfl, by rw [← hK]; exact SqT.of (R2.gh _ _ qt), rfl, _, _, rfl, store_of ok R2 ra q3 fun G3 H3 R3 s3 => ⟨_, _, rfl, store_of ok R3 (rb.mono s3) q4 fun G4 H4 R4 s4 => ⟨rfl, ?_⟩⟩⟩
                  exact k σ G4 H4 R4 (((s1.trans s2).trans s3).trans s4)
          · cases he
        · cases he
      · cases he
    · cases he
  · cases he
theorem cs_sub2 {i j n1 : Nat} {l : Ex} {p1 : Pos} (hK : C.K = X.K) (hc : X.calm = true) (h1 : ∀ {ti : TE}, PE X tk ti → PG X a (gSub (tVar i) ti rSetA)) (h2 : ∀ {ti : TE}, PE X tl ti → PG X b (gSub (tVar j) ti rSetA)) (hx : PE X c (tE C x)) (hk : PE X tk (tE C y)) (hl : PE X tl (tE C l))
    (hsa : (assignEach [a, b] X.env).map (·.2) = assign a X.env :: (assignEach [b] X.env).map (·.2) := by rfl) (hsb : (assignEach [b] X.env).map (·.2) = assign b X.env :: (assignEach [] X.env).map (·.2) := by rfl)
    (hn : (assignEach [a, b] X.env).length = 2 := by rfl) (hst : (assignEach [a, b] X.env).findIdx? (·.1) = none := by rfl)
    (hs : swapsWithSole [.Tuple [a, b] n1 p1] c pos.line X.env = pure false := by rfl) (hw : swappedStores [.Tuple [a, b] n1 p1] c X.env = pure none := by rfl)
    (hz : (assignEach [.Tuple [a, b] n1 p1] X.env).map (·.2) = [assign (.Tuple [a, b] n1 p1) X.env] := by rfl) :
    PS X (.Assign [.Tuple [a, b] n1 p1] c pos) (tS C (.sub2 setA i y j l x)) :=
  (ps_asg hx (pg_tup hc (pgs_cons (h1 hk) (pgs_cons (h2 hl) pgs_nil hsb) hsa) hn hst) hs hw hz).imp fun D σ H q => sub2_of hK setA_ok q
def revLF : List D → Option D
  | [.lst l] => some (.lst l.reverse)
  | _ => none
theorem cf_revL {k : Nat} {p1 p2 p3 : Pos} (he : PE X a (tE C x)) (hK : C.K = X.K) : PE X (.Subscript a (.Slice none none (some (.UnaryOp .USub (.Constant (.int 1) k p1) p2)) p3) pos) (tF C (.op revLF [x])) := (pe_revL he).imp fun σ H Q q => by
  obtain ⟨F, G0, G, pn, e, d0, e', R, he, k⟩ := q
  obtain ⟨rs, ds, d, q1, q2, q3, q4⟩ := ev_op he
  cases q4
  obtain ⟨r1, e1, rs2, h1, h2, rfl⟩ := evs_cons q1
  obtain ⟨rfl, rfl⟩ := evs_nil h2
  obtain ⟨d1, ds1, g1, g2, rfl⟩ := gets_cons q2
  cases gets_nil g2
  unfold revLF at q3
  split at q3
  · rename_i l hz
    cases hz
    cases q3
    refine ⟨F, G0, G, pn, e, r1, _, R, h1, fun v G1 H1 R1 s1 rv => ?_⟩
    have r2 := R1.get rv g1
    cases r2 with
    | lst q rr => exact ⟨_, _, rfl, SqL.of q, fun p hp => own_of_new R1 s1 k p _ hp (.lst rr.reverse)⟩
  · cases q3
end
end Mi

/-! {k: v} with a tuple k. -/
namespace Mi
open PySem PySem.Spec PyProof.Rows L2 GxR
section
variable {X : Cx} {C : Cfg} {F G0 G H : Hp} {pn : Option (Nat × Addr)} {σ : St} {e e' : Env'} {a b : Expr} {x y z : Ex} {pos : Pos}
theorem tupleKind_room_of {prog : Program} {w : World} {A : Around} (hu : A.units + 1 < cLine) : (tupleKind (mixKind prog w)).room A := by
  first | exact hu | (show A.units + 1 < cLine; exact hu) | (show A.units < cLine; omega)
theorem dict_pairsT {env : Env} {prog : Program} {w : World} {A : Around} {E : Value → Shared → Prop} {s : Shared} {keys : List (Option Expr)} {values : List Expr} {pos : Pos} {pairs : List (Sem Value × Sem Value)} {Q : Value → Shared → Prop} (hu : (tupleKind (mixKind prog w)).room A)
    (hshape : (evalEachOpt keys env).zip ((evalEach values env).map fun v => do let x ← v; standAt pos; pure x) = pairs.map fun p => (some p.1, p.2)) (h0 : pairs ≠ []) (hlen : pairs.length ≤ 15)
    (h : wpAny (model prog w) A (evalPairs pairs) (fun vs s₁ => ∃ ps, CarriesH (tupleKind (mixKind prog w)) s₁.heap vs ps ∧ s₁.heap.DictOfH (tupleKind (mixKind prog w)) s.heap.objs.size [] ∧
      ∀ h' tk, h'.DictOfH (tupleKind (mixKind prog w)) s.heap.objs.size (storedAllH [] ps) → Heap.SameBut s.heap.objs.size s₁.heap h' → Q (.ref s.heap.objs.size) { s₁ with heap := h', toks := tk }) E
      { s with heap := s.heap.push { cls := .type "dict", data := .dict #[] } }) :
    wpAny (model prog w) A (eval (.Dict keys values pos) env) Q E s := by
  rw [arm_eval_Dict, hshape, dictDisplay_pairs pairs h0 (by omega)]
  exact wpAny_bind (wpAny_standAt (wpAny_bind (wpAny_subDictH (knd := tupleKind (mixKind prog w)) (Q := fun d s' => wpAny (model prog w) A (pure (Value.ref d)) Q E s') hu hlen
    (wpAny_mono h (fun vs s₁ h₁ => by obtain ⟨ps, hc, hm, hq⟩ := h₁; exact ⟨ps, hc, hm, fun h' tk a b => wpAny_pure (hq h' tk a b)⟩) fun _ _ e => e))))
def tDispT (tk tv : TE) : TE := fun σ H Q => ∀ p, H p = none → tk σ (upd H p (.dT [])) fun y H1 => tv σ H1 fun z H2 => H2 p = some (.dT []) ∧ ∃ (k : List Key) (b : Addr), y = .ref b ∧ H2 b = some (.tup (k.map kV)) ∧ Q (.ref p) (upd H2 p (.dT [(k, z)]))
theorem pe_disp1T {tk tv : TE} (hu : X.A.units + 1 < cLine) (hk : PE X a tk) (hv : PE X b tv) : PE X (.Dict [some a] [b] pos) (tDispT tk tv) := by
  have h := pps_cons (pos := pos) hk hv pps_nil
  refine ⟨fun pins s σ H Q I q => ?_⟩
  have hn := I.hok.fresh (Nat.le_refl s.heap.objs.size)
  have I1 := I.laid (a := s.heap.objs.size) (o := .dT []) (h' := s.heap.push { cls := .type "dict", data := .dict #[] }) (t' := s.toks) (fun _ _ q => Heap.get?_push_of_some _ q) (Nat.le_refl _) (dt_empty s.heap I.big)
  let Q' : List (V × V) → Hp → Prop := fun ps H2 => match ps with
    | [(y, z)] => H2 s.heap.objs.size = some (.dT []) ∧ ∃ (k : List Key) (b : Addr), y = .ref b ∧ H2 b = some (.tup (k.map kV)) ∧ Q (.ref s.heap.objs.size) (upd H2 s.heap.objs.size (.dT [(k, z)]))
    | _ => False
  refine dict_pairsT (pairs := pairTrees [some a] [b] X.env pos) (tupleKind_room_of hu) (zip_pairTrees [some a] [b] X.env pos rfl rfl) (by simp [pairTrees]) (by simp [pairTrees]) (thn (h.run pins _ σ _ Q' I1 (q _ hn)) fun ws s2 ⟨ps, H2, I2, rel, q2⟩ => ?_)
  have q3 : ∃ y z, ps = [(y, z)] ∧ H2 s.heap.objs.size = some (.dT []) ∧ ∃ (k : List Key) (b : Addr), y = .ref b ∧ H2 b = some (.tup (k.map kV)) ∧ Q (.ref s.heap.objs.size) (upd H2 s.heap.objs.size (.dT [(k, z)])) := by
    match ps, q2 with
    | [(y, z)], q2 => exact ⟨y, z, rfl, q2⟩
  obtain ⟨y, z, rfl, e, k, b', rfl, hb, q4⟩ := q3
  obtain ⟨kv, vv, rfl, ra, rb⟩ : ∃ kv vv, ws = [(kv, vv)] ∧ RelV (.ref b') kv ∧ RelV z vv := by
    cases rel with
    | cons h t =>
      cases t
      exact ⟨_, _, rfl, h.1, h.2⟩
  obtain rfl : kv = Value.ref b' := ra
  obtain ⟨z0, hd, xs, rl, dd⟩ := dt_of I2.hok e
  cases rl
  refine ⟨[(k, b', vv)], ⟨rfl, rfl, key_of I2.hok hb, trivial⟩, dd, fun h' tk dd' hs => ⟨.ref s.heap.objs.size, _, ?_, rfl, q4⟩⟩
  obtain ⟨o, es, ep, hq, h2, h3, h4, _, h5⟩ := dd'
  refine d_write I2 (by rw [e]; exact True.intro) hs ⟨o, hq⟩ ⟨by show 1 ≤ sizeLine; decide, hd, [(k, b', vv)], .cons ⟨rfl, ?_, rb⟩ .nil, o, es, ep, hq, h2, h3, h4, h5⟩
  rw [upd_ne (ne_of hb e (fun z => nomatch z))]
  exact hb
def disp1TF : List D → Option D
  | [k, v] => if keyT k then some (.dic [.non, k] [v]) else none
  | _ => none
theorem cf_disp1T (hu : X.A.units + 1 < cLine) (hK : PE X a (tE C x)) (hV : PE X b (tE C y)) : PE X (.Dict [some a] [b] pos) (tF C (.mk disp1TF [x, y])) := (pe_disp1T hu hK hV).imp fun σ H Q q => by
  obtain ⟨F, G0, G, pn, e, d0, e', R, he, k⟩ := q
  obtain ⟨rs, e1, ds, d, q1, q2, q3, q4⟩ := ev_mk he
  cases q4
  obtain ⟨r1, e2, rs2, h1, h2, rfl⟩ := evs_cons q1
  obtain ⟨r2, e3, rs3, h3, h4, rfl⟩ := evs_cons h2
  obtain ⟨rfl, rfl⟩ := evs_nil h4
  intro D0 hD
  have fD : F D0 = none := R.fh.free hD
  have tD : D0 ∉ C.tt := fun z => tabG_some (R.tb D0 z).1 hD
  have Rn := R.grow (grow_own (o := .dT []) R.gh R.tabs hD)
  have R0 := Rn.fr1 (o := .dT []) upd_same (R.gh.free hD) fD (fun i ⟨a1, b, a2, a3⟩ => by
    have q := R.sl i b a2
    rw [a1] at q
    cases b with
    | un => cases a3
    | im d => cases a3
    | ow d => obtain ⟨p, o, z, _, _, _, k4, _⟩ := q; cases z; rw [hD] at k4; cases k4
    | io d => obtain ⟨p, o, z, _, _, _, k4, _⟩ := q; cases z; rw [hD] at k4; cases k4) tD
  refine ⟨_, _, G, pn, e, r1, e2, R0, h1, fun v G1 H1 R1 s1 rv => ⟨_, _, G1, pn, e2, r2, _, R1, h3, fun w G2 H2 R2 s2 rw' => ?_⟩⟩
  obtain ⟨G3, s3, R3, r3, _⟩ := Rel.settles R2 (.cons ((rv.mono s2).env (ev_kept y _ _ _ h3).1) (.cons rw' .nil)) q2
  unfold disp1TF at q3
  split at q3
  · rename_i kd vd
    split at q3
    · rename_i hk
      cases q3
      cases r3 with
      | cons ra rb =>
        cases rb with
        | cons rb rc =>
          obtain ⟨key, b', rfl, rfl, hb⟩ := keyT_rep hk ra
          obtain ⟨u1, u2, u3, u4⟩ := R3.un1 (o' := .dT [(key, w)]) fD tD
          refine ⟨u1, key, b', rfl, R3.gh _ _ hb, ?_⟩
          exact k D0 (.dT [(key, w)]) G3 _ u4 ((s1.trans s2).trans s3) u2 fD tD u3 upd_same (.dT rfl (.cons rb .nil))
    · cases q3
  · cases q3
end
end Mi

/-! text.rstrip(one sign). -/
namespace Mi
open PySem PySem.Spec PyProof.Rows L2 GxR
/-- how many signs at the end are c -/
def trailL (s : List Nat) (c : Nat) : Nat := (s.reverse.takeWhile fun x => x == c).length
def rstL (s : List Nat) (c : Nat) : List Nat := s.take (s.length - trailL s c)
theorem rst_is (s : List Nat) (c : Nat) : Txt.rstripChars ⟨s.toArray⟩ ⟨#[c]⟩ = ⟨(rstL s c).toArray⟩ := by
  unfold Txt.rstripChars
  rw [PyProof.Rows.stripBy_eq]
  have e : (⟨#[c]⟩ : Str).cps.contains = fun x => x == c := by
    funext x
    show (#[c] : Array Nat).contains x = _
    simp
    rfl
  rw [e]
  have e2 : stripLo (fun x => x == c) false (⟨s.toArray⟩ : Str) = 0 := rfl
  rw [e2]
  have e3 : stripHi (fun x => x == c) true (⟨s.toArray⟩ : Str) 0 = s.length - trailL s c := by
    unfold stripHi trailL
    rw [if_pos rfl, strLen, strOf, List.drop_zero]
  rw [e3]
  unfold PySem.Builtin.Str.strSub rstL
  simp
section
variable {X : Cx} {C : Cfg}
def rstripF : List D → Option D
  | [.str s, .str [c]] => if s.length ≤ 16000000 then some (.str (rstL s c)) else none
  | _ => none
theorem rstripF_str : ∀ ds d, rstripF ds = some d → ∃ s ds2, ds = .str s :: ds2 := fun ds d h => by
  unfold rstripF at h
  split at h
  · exact ⟨_, _, rfl⟩
  · cases h
theorem rstripF_ok : OkN C (fun vs H Q => ∃ v us, vs = v :: us ∧ (∃ a b, v = .str a ∧ us = [.str b] ∧ a.length ≤ sizeLine ∧ Q (.str (Txt.rstripChars a b)) H)) rstripF := fun vs ds d G H Q s t r e k => by
  unfold rstripF at e
  split at e
  · split at e
    · rename_i hz
      cases e
      obtain ⟨v, w, rfl, rv, rw'⟩ := repTs_two r
      cases rv
      cases rw'
      exact ⟨_, _, rfl, _, _, rfl, rfl, by rw [strLen]; exact Nat.le_trans hz (by decide), by rw [rst_is]; exact res_flat s t k (.str _)⟩
    · cases e
  · cases e
end
/-- its typed form -/
def T.srst (s x : List Nat) : Option (List Nat) := match x with
  | [c] => if s.length ≤ 16000000 then some (rstL s c) else none
  | _ => none
theorem T.srst_ok {s x n : List Nat} (h : T.srst s x = some n) : rstripF [.str s, .str x] = some (.str n) := by
  unfold T.srst at h
  split at h
  · split at h
    · rename_i hz
      cases h
      show (if s.length ≤ 16000000 then _ else _) = _
      rw [if_pos hz]
    · cases h
  · cases h
end Mi

/-! sorted(set(a list of pairs of small numbers)). -/
namespace Mi
open PySem PySem.Spec PyProof.Rows L2 GxR
def kp (p : Int × Int) : Int := p.1 * 64 + p.2
def insP (p : Int × Int) : List (Int × Int) → List (Int × Int)
  | [] => [p]
  | q :: l => if kp p < kp q then p :: q :: l else if kp p = kp q then q :: l else q :: insP p l
def ssL : List (Int × Int) → List (Int × Int)
  | [] => []
  | p :: l => insP p (ssL l)
def okP (p : Int × Int) : Bool := decide (0 ≤ p.1 ∧ p.1 < 64 ∧ 0 ≤ p.2 ∧ p.2 < 64)
theorem kp_inj {p q : Int × Int} (hp : okP p = true) (hq : okP q = true) (h : kp p = kp q) : p = q := by
  unfold okP at hp hq
  rw [decide_eq_true_eq] at hp hq
  unfold kp at h
  have : p.1 = q.1 ∧ p.2 = q.2 := by omega
  exact Prod.ext this.1 this.2
theorem ins_mem {p : Int × Int} (hp : okP p = true) : ∀ {l : List (Int × Int)}, (∀ q ∈ l, okP q = true) → ∀ x, x ∈ insP p l ↔ x = p ∨ x ∈ l
  | [], _, x => by simp [insP]
  | q :: l, h, x => by
    unfold insP
    split
    · simp
    · split
      · rename_i e
        have := kp_inj hp (h q List.mem_cons_self) e
        subst this
        simp
      · rw [List.mem_cons, ins_mem hp (fun z hz => h z (List.mem_cons_of_mem _ hz)) x, List.mem_cons]
        constructor
        · rintro (h | h | h)
          · exact .inr (.inl h)
          · exact .inl h
          · exact .inr (.inr h)
        · rintro (h | h | h)
          · exact .inr (.inl h)
          · exact .inl h
          · exact .inr (.inr h)
theorem ss_mem : ∀ {l : List (Int × Int)}, (∀ q ∈ l, okP q = true) → ∀ x, x ∈ ssL l ↔ x ∈ l
  | [], _, x => Iff.rfl
  | p :: l, h, x => by
    have h2 : ∀ q ∈ l, okP q = true := fun z hz => h z (List.mem_cons_of_mem _ hz)
    show x ∈ insP p (ssL l) ↔ _
    rw [ins_mem (h p List.mem_cons_self) (fun q hq => h2 q ((ss_mem h2 q).mp hq)) x, ss_mem h2 x, List.mem_cons]
theorem ins_pw {p : Int × Int} : ∀ {l : List (Int × Int)}, l.Pairwise (fun a b => kp a < kp b) → (insP p l).Pairwise (fun a b => kp a < kp b) ∧ ∀ x ∈ insP p l, x = p ∨ x ∈ l
  | [], _ => ⟨by simp [insP], fun x hx => by simp [insP] at hx; exact .inl hx⟩
  | q :: l, h => by
    obtain ⟨h1, h2⟩ := List.pairwise_cons.mp h
    unfold insP
    split
    · rename_i e
      refine ⟨List.pairwise_cons.mpr ⟨fun x hx => ?_, h⟩, fun x hx => by simpa using hx⟩
      rcases List.mem_cons.mp hx with rfl | hx
      · exact e
      · exact Int.lt_trans e (h1 x hx)
    · split
      · exact ⟨h, fun x hx => .inr hx⟩
      · rename_i e1 e2
        obtain ⟨k1, k2⟩ := ins_pw (p := p) h2
        refine ⟨List.pairwise_cons.mpr ⟨fun x hx => ?_, k1⟩, fun x hx => ?_⟩
        · rcases k2 x hx with rfl | hx
          · omega
          · exact h1 x hx
        · rcases List.mem_cons.mp hx with rfl | hx
          · exact .inr List.mem_cons_self
          · rcases k2 x hx with rfl | hx
            · exact .inl rfl
            · exact .inr (List.mem_cons_of_mem _ hx)
theorem ss_pw : ∀ l : List (Int × Int), (ssL l).Pairwise fun a b => kp a < kp b
  | [] => .nil
  | p :: l => (ins_pw (ss_pw l)).1
theorem pw_uniq : ∀ {A B : List (Int × Int)}, A.Pairwise (fun a b => kp a < kp b) → B.Pairwise (fun a b => kp a < kp b) → (∀ x, x ∈ A ↔ x ∈ B) → A = B
  | [], [], _, _, _ => rfl
  | [], b :: B, _, _, h => nomatch (h b).mpr List.mem_cons_self
  | a :: A, [], _, _, h => nomatch (h a).mp List.mem_cons_self
  | a :: A, b :: B, hA, hB, h => by
    obtain ⟨a1, a2⟩ := List.pairwise_cons.mp hA
    obtain ⟨b1, b2⟩ := List.pairwise_cons.mp hB
    have e : a = b := by
      rcases List.mem_cons.mp ((h a).mp List.mem_cons_self) with q | q
      · exact q
      · rcases List.mem_cons.mp ((h b).mpr List.mem_cons_self) with q2 | q2
        · exact q2.symm
        · have := b1 a q
          have := a1 b q2
          omega
    subst e
    rw [pw_uniq a2 b2 fun x => ⟨fun hx => ?_, fun hx => ?_⟩]
    · rcases List.mem_cons.mp ((h x).mp (List.mem_cons_of_mem _ hx)) with rfl | q
      · exact absurd (a1 _ hx) (Int.lt_irrefl _)
      · exact q
    · rcases List.mem_cons.mp ((h x).mpr (List.mem_cons_of_mem _ hx)) with rfl | q
      · exact absurd (b1 _ hx) (Int.lt_irrefl _)
      · exact q
def prsOf : List D → Option (List (Int × Int))
  | [] => some []
  | .tup [.int a, .int b] :: l => if okP (a, b) = true then (prsOf l).map fun m => (a, b) :: m else none
  | _ => none
def prD (p : Int × Int) : D := .tup [.int p.1, .int p.2]
def ssF : List D → Option D
  | [.lst l] => match prsOf l with
    | some ps => if ps.length < 64 then some (.lst ((ssL ps).map prD)) else none
    | none => none
  | _ => none
section
variable {X : Cx} {C : Cfg}
/-- the values of a list of pairs -/
theorem prs_reps {K : Frag} {G : Hp} : ∀ {l : List D} {ps : List (Int × Int)} {vs : List V}, prsOf l = some ps → RepL K G vs l →
    ∃ ks : List (Addr × List Int), vs = ks.map (fun p => V.ref p.1) ∧ ks.map (·.2) = ps.map (fun p => [p.1, p.2]) ∧ (∀ p ∈ ps, okP p = true) ∧ ∀ q ∈ ks, (∃ p ∈ ps, q.2 = [p.1, p.2]) ∧ G q.1 = some (.tup (q.2.map V.int))
  | [], ps, vs, h, r => by
    cases h
    cases r
    exact ⟨[], rfl, rfl, fun p hp => (nomatch hp), fun q hq => (nomatch hq)⟩
  | d :: l, ps, vs, h, r => by
    unfold prsOf at h
    split at h
    · rename_i e
      cases e
    · rename_i a b l2 e
      cases e
      split at h
      · rename_i hab
        obtain ⟨m, hm, rfl⟩ := Option.map_eq_some_iff.mp h
        cases r with
        | cons r1 r2 =>
          cases r1 with
          | tup q rr =>
            cases rr with
            | cons x1 x2 =>
              cases x2 with
              | cons y1 y2 =>
                cases y2
                cases x1
                cases y1
                obtain ⟨ks, k1, k2, k3, k4⟩ := prs_reps hm r2
                subst k1
                refine ⟨(_, [a, b]) :: ks, rfl, by rw [List.map_cons, List.map_cons, k2], fun p hp => ?_, fun z hz => ?_⟩
                · rcases List.mem_cons.mp hp with rfl | hp
                  · exact hab
                  · exact k3 p hp
                · rcases List.mem_cons.mp hz with rfl | hz
                  · exact ⟨⟨(a, b), List.mem_cons_self, rfl⟩, q⟩
                  · obtain ⟨⟨p, p1, p2⟩, q2⟩ := k4 z hz
                    exact ⟨⟨p, List.mem_cons_of_mem _ p1, p2⟩, q2⟩
      · cases h
    · cases h
theorem tF_ss (hK : C.K = X.K) {x : Ex} {σ : St} {H : Hp} {Q : VK} (q : tF C (.op ssF [x]) σ H Q) : tA C [x] σ H fun vs H1 => rSetOfT X.K X.prog X.w vs H1 fun v H2 => rSortedT X.K X.prog X.w [v] H2 Q := by
  obtain ⟨F, G0, G, pn, e, d0, e', R, he, k⟩ := q
  obtain ⟨rs, ds, d, q1, q2, q3, q4⟩ := ev_op he
  cases q4
  refine ⟨F, G0, G, pn, e, rs, e', R, q1, fun vs G1 H1 R1 s1 r1 => ?_⟩
  have rr := R1.gets r1 q2
  unfold ssF at q3
  split at q3
  · rename_i l
    split at q3
    · rename_i ps hps
      split at q3
      · rename_i hz
        cases q3
        obtain ⟨v, rfl, rv⟩ := repTs_one rr
        cases rv with
        | lst qa ra =>
          rename_i a xs
          obtain ⟨ks, k1, k2, k3, k4⟩ := prs_reps hps ra
          subst k1
          have len : ks.length = ps.length := by have := congrArg List.length k2; simpa using this
          have inH : ∀ z ∈ ks, H1 z.1 = some (.tup (z.2.map V.int)) := fun z hz => R1.gh _ _ (k4 z hz).2
          refine ⟨a, ks, rfl, SqL.of qa, fun z hz => .inl (.inl (inH z hz)), by omega, fun b L hb hsub hall => ?_⟩
          have ne : ∀ z ∈ ks, z.1 ≠ b := fun z hz e => by
            have := inH z hz
            rw [e, hb] at this
            cases this
          refine ⟨b, L, 2, 64, rfl, upd_same, fun z hz => .inl (.inl (by rw [upd_ne (ne z (hsub z hz))]; exact inH z (hsub z hz))), by decide, fun z hz => ?_, fun L' p pm nd few pw hp => ?_⟩
          · obtain ⟨⟨y, y1, y2⟩, _⟩ := k4 z (hsub z hz)
            have := k3 y y1
            unfold okP at this
            rw [decide_eq_true_eq] at this
            rw [y2]
            refine ⟨rfl, fun w hw => ?_⟩
            rcases List.mem_cons.mp hw with rfl | hw
            · omega
            · rw [List.mem_singleton.mp hw]
              omega
          · have R2 := R1.grow (grow_own (C := C) R1.gh R1.tabs hb (o := SetTO X.prog X.w b L))
            refine own_of_new R2 s1 k p _ hp ?_
            have sec : ∀ z ∈ L', ∃ y ∈ ps, z.2 = [y.1, y.2] := fun z hz => (k4 z (hsub z (pm.mem_iff.mp hz))).1
            let f : Addr × List Int → Int × Int := fun z => (z.2.getD 0 0, z.2.getD 1 0)
            have f2 : ∀ z ∈ L', z.2 = [(f z).1, (f z).2] := fun z hz => by
              obtain ⟨y, _, e⟩ := sec z hz
              show z.2 = [z.2.getD 0 0, z.2.getD 1 0]
              rw [e]
              rfl
            have fc : ∀ z ∈ L', TS.code 64 z.2 = kp (f z) := fun z hz => by
              rw [f2 z hz, code_pair]
              rfl
            have fok : ∀ z ∈ L', okP (f z) = true := fun z hz => by
              obtain ⟨y, y1, e⟩ := sec z hz
              have : f z = y := by
                show (z.2.getD 0 0, z.2.getD 1 0) = y
                rw [e]
                rfl
              rw [this]
              exact k3 y y1
            have eqL : L'.map f = ssL ps := by
              refine pw_uniq ?_ (ss_pw ps) fun y => ?_
              · rw [List.pairwise_map]
                have nd2 : L'.Pairwise fun a b => a.2 ≠ b.2 := by
                  have := nd
                  unfold List.Nodup at this
                  rwa [List.pairwise_map] at this
                refine List.Pairwise.imp_of_mem (fun {u w} hu hw h => ?_) (pw.and nd2)
                have h1 := h.1
                rw [fc u hu, fc w hw] at h1
                have h3 : kp (f u) ≠ kp (f w) := fun e => h.2 (by rw [f2 u hu, f2 w hw, kp_inj (fok u hu) (fok w hw) e])
                omega
              · rw [ss_mem k3 y]
                constructor
                · intro hy
                  obtain ⟨z, hz, rfl⟩ := List.mem_map.mp hy
                  obtain ⟨w, w1, e⟩ := sec z hz
                  have : f z = w := by
                    show (z.2.getD 0 0, z.2.getD 1 0) = w
                    rw [e]
                    rfl
                  rw [this]
                  exact w1
                · intro hy
                  have h1 : [y.1, y.2] ∈ ks.map (·.2) := by rw [k2]; exact List.mem_map.mpr ⟨y, hy, rfl⟩
                  obtain ⟨z, hz, e⟩ := List.mem_map.mp h1
                  obtain ⟨w, hw, e2⟩ := List.mem_map.mp (hall z hz)
                  refine List.mem_map.mpr ⟨w, pm.mem_iff.mpr hw, ?_⟩
                  show (w.2.getD 0 0, w.2.getD 1 0) = y
                  rw [show w.2 = [y.1, y.2] by rw [← e]; exact e2]
                  rfl
            refine .lst ?_
            rw [← eqL, List.map_map]
            have rep : ∀ (M : List (Addr × List Int)), (∀ z ∈ M, z ∈ L') → RepL C.K G1 (M.map fun q => V.ref q.1) (M.map (prD ∘ f)) := by
              intro M
              induction M with
              | nil => exact fun _ => .nil
              | cons z M ih =>
                intro hM
                refine .cons ?_ (ih fun y hy => hM y (List.mem_cons_of_mem _ hy))
                have hz := hM z List.mem_cons_self
                have g := (k4 z (hsub z (pm.mem_iff.mp hz))).2
                rw [f2 z hz] at g
                exact .tup g (.cons (.int _) (.cons (.int _) .nil))
            exact rep L' fun z hz => hz
      · cases q3
    · cases q3
  · cases q3
theorem cf_ss {ea : Expr} {x : Ex} {p p2 pos pos2 : Pos} (hc : X.calm = true) (hu : X.A.units + 64 < cLine) (hK : C.K = X.K) (hg : Gl X "sorted") (hm : X.mg "sorted" = none) (hg2 : Gl X "set") (hm2 : X.mg "set" = none) (ha : PA X [ea] (tA C [x]))
    (he2 : starEach [ea] X.env = (false, eval ea X.env) :: starEach [] X.env := by rfl)
    (he : starEach [.Call (.Name "set" p2) [ea] [] pos2] X.env = (false, eval (.Call (.Name "set" p2) [ea] [] pos2) X.env) :: starEach [] X.env := by rfl) :
    PE X (.Call (.Name "sorted" p) [.Call (.Name "set" p2) [ea] [] pos2] [] pos) (tF C (.op ssF [x])) := by
  have h1 := pe_callTy (pos := pos2) (p := p2) (cr_setOfT hc hu) hg2 hm2 boot_set ha (by decide) (by decide) he2 rfl
  have h2 := pe_callB (pos := pos) (p := p) (cr_sortedT (X := X) hc) hg hm (by decide +kernel) (pa_cons h1 pa_nil) (by decide) (by decide) he rfl
  exact h2.imp fun σ H Q q => tF_ss hK q
theorem cs_setLcK {i j : Nat} {nm : Str} {py pos spos : Pos} {elt tgx a : Expr} {ifs : List Expr} {scope : Scope} {own : List (Str × Nat)} {tg : Tg} {cs : List Ex} {x : Ex} (hc : X.calm = true) (hN : X.N.Nodup) (hy : X.N[i]? = some nm) (hyl : X.env.scope.names.lookup nm = some .local) (hsw : swapsWith (.ListComp elt [⟨tgx, a, ifs, 0⟩] scope pos) (some (.Name nm py)) spos.line X.env = pure true) (ha : PE X a (tVar j)) (ok : BlkOk X.N X.env.scope scope own)
    (hg : ∀ (s : Shared) (H : Hp) (Cc : Addr) (cl : List (Str × Addr)) (fp : List Addr), PG (X.blk s H scope (compEnvC scope cl Cc X.env) fp) tgx (tG C tg)) (ht : ∀ (s : Shared) (H : Hp) (Cc : Addr) (cl : List (Str × Addr)) (fp : List Addr), PTs (X.blk s H scope (compEnvC scope cl Cc X.env) fp) ifs (tTs C cs))
    (he : ∀ (s : Shared) (H : Hp) (Cc : Addr) (cl : List (Str × Addr)) (fp : List Addr), PE (X.blk s H scope (compEnvC scope cl Cc X.env) fp) elt (tE C x)) (hsl : (tg.slots.all fun i => (own.map (·.2)).contains i) = true) (hs : ∀ x, foldedSetIterable a X.env x = pure x := by intro _; rfl) :
    PS X (.Assign [.Name nm py] (.ListComp elt [⟨tgx, a, ifs, 0⟩] scope pos) spos) (tS C (.set (.nm i) (.lc keysF [.var j] (own.map (·.2)) tg cs x))) := (ps_orL (ps_setLc hc hN hy hyl hsw (ci_keysL (C := C) ha) ok hg ht he hs)).imp fun D σ H q => by
  have h := set_of (te := fun σ H Q => tLockE (tLc (tIK C j) (tG C tg) (tTs C cs) (tE C x) (own.map fun (z : Str × Nat) => z.2)) σ H Q ∨ tLc (tIK C j) (tG C tg) (tTs C cs) (tE C x) (own.map fun (z : Str × Nat) => z.2) σ H Q) (fun _ _ _ h => lc_keys (fun i hi => by
    have := List.all_eq_true.mp hsl i hi
    exact List.contains_iff_mem.mp this) (tF_tE h lc_pers)) gName_of q
  exact h
end
end Mi

/-! Typed mirrors: what the language computes, shown by patterns of the environment. -/
namespace Mi.T
open PySem PySem.Spec PyProof.Rows L2 GxR
/-- what is known of a slot -/
inductive Sl where
  | ex (b : B)
  /-- anything but a borrowed own thing -/
  | any
  /-- nothing, or plain data -/
  | soft
abbrev Pt := List Sl
def _root_.Mi.B.noIo : B → Bool
  | .io _ => false
  | _ => true
def okB : Sl → B → Prop
  | .ex b, c => c = b
  | .any, c => c.noIo = true
  | .soft, c => c.isOw = false
inductive Mt : Pt → Env' → Prop
  | nil : Mt [] []
  | cons {s : Sl} {b : B} {p : Pt} {e : Env'} : okB s b → Mt p e → Mt (s :: p) (b :: e)
def Sl.noIo : Sl → Bool
  | .ex b => b.noIo
  | _ => true
def Sl.noOw : Sl → Bool
  | .ex b => !b.isOw
  | .any => false
  | .soft => true
theorem Mt.get : ∀ {p : Pt} {e : Env'} {i : Nat} {s : Sl}, Mt p e → p[i]? = some s → ∃ b, e[i]? = some b ∧ okB s b
  | _, _, _, _, .nil, h => by simp at h
  | _, _, 0, _, .cons h _, q => by
    simp only [List.getElem?_cons_zero, Option.some.injEq] at q
    subst q
    exact ⟨_, rfl, h⟩
  | _, _, i + 1, s, .cons _ t, q => by
    obtain ⟨b, h1, h2⟩ := Mt.get (i := i) t (by simpa using q)
    exact ⟨b, by simpa using h1, h2⟩
theorem Mt.set : ∀ {p : Pt} {e : Env'} {s : Sl} {b : B} (i : Nat), Mt p e → okB s b → Mt (p.set i s) (e.set i b)
  | _, _, _, _, _, .nil, _ => .nil
  | _, _, _, _, 0, .cons _ t, h => .cons h t
  | _, _, _, _, i + 1, .cons a t, h => .cons a (Mt.set i t h)
theorem Sl.noIo_of {s : Sl} {b : B} (h : okB s b) (q : s.noIo = true) : b.noIo = true := by
  cases s with
  | ex c => cases h; exact q
  | any => exact h
  | soft => cases b <;> first | rfl | cases h
theorem Sl.noOw_of {s : Sl} {b : B} (h : okB s b) (q : s.noOw = true) : b.isOw = false := by
  cases s with
  | ex c => cases h; simpa [Sl.noOw] using q
  | any => cases q
  | soft => exact h
/-- forget some slots: 0 keep, 1 any, 2 soft -/
def maskP : List Nat → Pt → Pt
  | m :: ms, s :: p => (match m with
    | 0 => s
    | 1 => .any
    | _ => .soft) :: maskP ms p
  | [], p => p
  | _, [] => []
def maskOk : List Nat → Pt → Bool
  | m :: ms, s :: p => (match m with
    | 0 => true
    | 1 => s.noIo
    | _ => s.noOw) && maskOk ms p
  | _, _ => true
theorem Mt.mask : ∀ (m : List Nat) {p : Pt} {e : Env'}, Mt p e → maskOk m p = true → Mt (maskP m p) e
  | [], _, _, h, _ => by unfold maskP; exact h
  | _ :: _, _, _, .nil, _ => by unfold maskP; exact .nil
  | k :: ms, _, _, .cons a t, h => by
    unfold maskOk at h
    obtain ⟨h1, h2⟩ := Bool.and_eq_true_iff.mp h
    unfold maskP
    refine .cons ?_ (Mt.mask ms t h2)
    split at h1
    · exact a
    · exact Sl.noIo_of a h1
    · exact Sl.noOw_of a h1
theorem Mt.to (m : List Nat) {p p' : Pt} {e : Env'} (h : Mt p e) (h1 : maskOk m p = true) (h2 : maskP m p = p') : Mt p' e := h2 ▸ h.mask m h1
/-! ### values -/
def gp (p : Pt) : Rv → Option D
  | .pers d => some d
  | .bor i => (match p[i]? with
    | some (.ex (.im (.lst l))) => some (.lst l)
    | some (.ex (.ow (.lst l))) => some (.lst l)
    | some (.ex (.io (.lst l))) => some (.lst l)
    | some (.ex (.im (.dic k v))) => some (.dic k v)
    | some (.ex (.ow (.dic k v))) => some (.dic k v)
    | some (.ex (.io (.dic k v))) => some (.dic k v)
    | _ => none)
theorem gp_ok {p : Pt} {e : Env'} {r : Rv} {d : D} (m : Mt p e) (h : gp p r = some d) : r.get e = some d := by
  cases r with
  | pers x => exact h
  | bor i =>
    simp only [gp] at h
    split at h <;> first | cases h | skip
    all_goals
      rename_i q
      obtain ⟨b, h1, h2⟩ := m.get q
      cases h2
      simp only [Rv.get, h1, B.data]
def gps (p : Pt) : List Rv → Option (List D)
  | [] => some []
  | r :: rs => (match gp p r with
    | some d => (match gps p rs with
      | some ds => some (d :: ds)
      | none => none)
    | none => none)
theorem gps_ok {p : Pt} {e : Env'} (m : Mt p e) : ∀ {rs : List Rv} {ds : List D}, gps p rs = some ds → gets e rs = some ds
  | [], _, h => h
  | r :: rs, ds, h => by
    unfold gps at h
    split at h
    · rename_i d hd
      split at h
      · rename_i es he
        cases h
        unfold gets
        rw [gp_ok m hd, gps_ok m he]
      · cases h
    · cases h
def sp (p : Pt) : Rv → Option (D × Pt)
  | .pers d => some (d, p)
  | .bor i => (match p[i]? with
    | some (.ex (.im d)) => some (d, p)
    | some (.ex (.ow d)) => some (d, p.set i (.ex (.im d)))
    | _ => none)
theorem sp_ok {p p' : Pt} {e : Env'} {r : Rv} {d : D} (m : Mt p e) (h : sp p r = some (d, p')) : ∃ e', r.settle e = some (d, e') ∧ Mt p' e' := by
  cases r with
  | pers x => cases h; exact ⟨e, rfl, m⟩
  | bor i =>
    simp only [sp] at h
    split at h <;> first | cases h | skip
    all_goals
      rename_i q
      obtain ⟨b, h1, h2⟩ := m.get q
      cases h2
      simp only [Rv.settle, h1]
      first | exact ⟨_, rfl, m⟩ | exact ⟨_, rfl, m.set i rfl⟩
def sps (p : Pt) : List Rv → Option (List D × Pt)
  | [] => some ([], p)
  | r :: rs => (match sp p r with
    | some (d, p1) => (match sps p1 rs with
      | some (ds, p2) => some (d :: ds, p2)
      | none => none)
    | none => none)
theorem sps_ok : ∀ {rs : List Rv} {ds : List D} {p p' : Pt} {e : Env'}, Mt p e → sps p rs = some (ds, p') → ∃ e', settles e rs = some (ds, e') ∧ Mt p' e'
  | [], _, _, _, e, m, h => by cases h; exact ⟨e, rfl, m⟩
  | r :: rs, ds, p, p', e, m, h => by
    unfold sps at h
    split at h
    · rename_i d p1 hd
      split at h
      · rename_i es p2 he
        cases h
        obtain ⟨e1, h1, m1⟩ := sp_ok m hd
        obtain ⟨e2, h2, m2⟩ := sps_ok m1 he
        exact ⟨e2, by unfold settles; rw [h1]; show (match settles e1 rs with
          | some (ds, e2) => some (d :: ds, e2)
          | none => none) = _; rw [h2] <;> rfl, m2⟩
      · cases h
    · cases h
mutual
def _root_.Mi.Tg.bp : Tg → D → Pt → Option Pt
  | .nm i, d, p => (match p[i]? with
    | some s => if s.noIo then some (p.set i (.ex (.im d))) else none
    | none => none)
  | .tp ts, .tup ds, p => Tg.bps ts ds p
  | .tp ts, .lst ds, p => Tg.bps ts ds p
  | .tp _, _, _ => none
def _root_.Mi.Tg.bps : List Tg → List D → Pt → Option Pt
  | [], [], p => some p
  | t :: ts, d :: ds, p => (match t.bp d p with
    | some p1 => Tg.bps ts ds p1
    | none => none)
  | _, _, _ => none
end
theorem bind_nm {i : Nat} {d : D} {e : Env'} {b : B} (h : e[i]? = some b) (h2 : b.noIo = true) : (Tg.nm i).bind d e = some (e.set i (.im d)) := by
  unfold Tg.bind
  rw [h]
  cases b <;> first | rfl | cases h2
mutual
theorem _root_.Mi.Tg.bp_ok : ∀ (t : Tg) {d : D} {p p' : Pt} {e : Env'}, Mt p e → t.bp d p = some p' → ∃ e', t.bind d e = some e' ∧ Mt p' e'
  | .nm i, d, p, p', e, m, h => by
    unfold Tg.bp at h
    split at h
    · rename_i s q
      split at h
      · rename_i hz
        cases h
        obtain ⟨b, h1, h2⟩ := m.get q
        exact ⟨_, bind_nm h1 (Sl.noIo_of h2 hz), m.set i rfl⟩
      · cases h
    · cases h
  | .tp ts, d, p, p', e, m, h => by
    cases d <;> first | (unfold Tg.bp at h; cases h; done) | skip
    all_goals
      rename_i ds
      unfold Tg.bp at h
      obtain ⟨e', h1, m1⟩ := Tg.bps_ok ts m h
      exact ⟨e', by unfold Tg.bind; exact h1, m1⟩
theorem _root_.Mi.Tg.bps_ok : ∀ (ts : List Tg) {ds : List D} {p p' : Pt} {e : Env'}, Mt p e → Tg.bps ts ds p = some p' → ∃ e', Tg.binds ts ds e = some e' ∧ Mt p' e'
  | [], ds, p, p', e, m, h => by
    cases ds with
    | nil => unfold Tg.bps at h; cases h; exact ⟨e, by unfold Tg.binds; rfl, m⟩
    | cons d ds => unfold Tg.bps at h; cases h
  | t :: ts, ds, p, p', e, m, h => by
    cases ds with
    | nil => unfold Tg.bps at h; cases h
    | cons d ds =>
      unfold Tg.bps at h
      split at h
      · rename_i p1 q
        obtain ⟨e1, h1, m1⟩ := Tg.bp_ok t m q
        obtain ⟨e2, h2, m2⟩ := Tg.bps_ok ts m1 h
        exact ⟨e2, by unfold Tg.binds; rw [h1]; exact h2, m2⟩
      · cases h
end
/-! ### expressions -/
def Ev (x : Ex) (p : Pt) (r : Rv) (p' : Pt) : Prop := ∀ e, Mt p e → ∃ e', ev x e = some (r, e') ∧ Mt p' e'
def Evs (xs : List Ex) (p : Pt) (rs : List Rv) (p' : Pt) : Prop := ∀ e, Mt p e → ∃ e', evs xs e = some (rs, e') ∧ Mt p' e'
def Evt (cs : List Ex) (p : Pt) (b : Bool) (p' : Pt) : Prop := ∀ e, Mt p e → ∃ e', evt cs e = some (b, e') ∧ Mt p' e'
section
variable {x y z : Ex} {xs : List Ex} {p p1 p2 p3 p4 p' : Pt} {r r1 r2 : Rv} {rs : List Rv} {d d0 d1 d2 : D} {ds ds2 : List D} {f g : List D → Option D} {i : Nat}
theorem ev_cst : Ev (.cst d) p (.pers d) p := fun e m => ⟨e, by unfold ev; rfl, m⟩
theorem ev_v (h : p[i]? = some (.ex (.im d))) : Ev (.var i) p (.pers d) p := fun e m => by
  obtain ⟨b, h1, h2⟩ := m.get h
  cases h2
  exact ⟨e, by unfold ev; rw [h1], m⟩
theorem ev_ow (h : p[i]? = some (.ex (.ow d))) : Ev (.var i) p (.bor i) p := fun e m => by
  obtain ⟨b, h1, h2⟩ := m.get h
  cases h2
  exact ⟨e, by unfold ev; rw [h1], m⟩
theorem ev_io (h : p[i]? = some (.ex (.io d))) : Ev (.var i) p (.bor i) p := fun e m => by
  obtain ⟨b, h1, h2⟩ := m.get h
  cases h2
  exact ⟨e, by unfold ev; rw [h1], m⟩
theorem evs_n : Evs [] p [] p := fun e m => ⟨e, by unfold evs; rfl, m⟩
theorem evs_c (h : Ev x p r p1) (t : Evs xs p1 rs p2) : Evs (x :: xs) p (r :: rs) p2 := fun e m => by
  obtain ⟨e1, h1, m1⟩ := h e m
  obtain ⟨e2, h2, m2⟩ := t e1 m1
  exact ⟨e2, by unfold evs; rw [h1]; show (match evs xs e1 with
      | some (rs, e2) => some (r :: rs, e2)
      | none => none) = _; rw [h2] <;> rfl, m2⟩
theorem ev_op (h : Evs xs p rs p1) (hg : gps p1 rs = some ds) (hf : f ds = some d) : Ev (.op f xs) p (.pers d) p1 := fun e m => by
  obtain ⟨e1, h1, m1⟩ := h e m
  exact ⟨e1, by unfold ev; simp only [h1, gps_ok m1 hg, hf], m1⟩
theorem ev_mk (h : Evs xs p rs p1) (hg : sps p1 rs = some (ds, p2)) (hf : f ds = some d) : Ev (.mk f xs) p (.pers d) p2 := fun e m => by
  obtain ⟨e1, h1, m1⟩ := h e m
  obtain ⟨e2, h2, m2⟩ := sps_ok m1 hg
  exact ⟨e2, by unfold ev; simp only [h1, h2, hf], m2⟩
theorem ev_call (h : Evs xs p rs p1) (hg : sps p1 rs = some (ds, p2)) (hf : f ds = some d) : Ev (.call f xs) p (.pers d) p2 := fun e m => by
  obtain ⟨e1, h1, m1⟩ := h e m
  obtain ⟨e2, h2, m2⟩ := sps_ok m1 hg
  exact ⟨e2, by unfold ev; simp only [h1, h2, hf], m2⟩
def ownP (p : Pt) (i : Nat) : Bool := match p[i]? with
  | some (.ex b) => b.isOw
  | _ => false
theorem ownP_ok {e : Env'} (m : Mt p e) (h : ownP p i = true) : ownAt e i = true := by
  unfold ownP at h
  split at h
  · rename_i b q
    obtain ⟨c, h1, h2⟩ := m.get q
    cases h2
    unfold ownAt
    rw [h1]
    exact h
  · cases h
theorem ev_callOi {φ : List D → Option (D × D)} (ho : ownP p i = true) (h : Evs xs p rs p1) (hg : sps p1 rs = some (ds, p2)) (hi : p2[i]? = some (.ex (.io d0))) (hf : φ (d0 :: ds) = some (d, d1)) : Ev (.callO φ i xs) p (.pers d) (p2.set i (.ex (.io d1))) := fun e m => by
  obtain ⟨e1, h1, m1⟩ := h e m
  obtain ⟨e2, h2, m2⟩ := sps_ok m1 hg
  obtain ⟨b, q1, q2⟩ := m2.get hi
  cases q2
  exact ⟨_, by unfold ev; simp only [ownP_ok m ho, if_true, h1, h2, q1, hf] <;> rfl, m2.set i rfl⟩
theorem ev_callOo {φ : List D → Option (D × D)} (ho : ownP p i = true) (h : Evs xs p rs p1) (hg : sps p1 rs = some (ds, p2)) (hi : p2[i]? = some (.ex (.ow d0))) (hf : φ (d0 :: ds) = some (d, d1)) : Ev (.callO φ i xs) p (.pers d) (p2.set i (.ex (.ow d1))) := fun e m => by
  obtain ⟨e1, h1, m1⟩ := h e m
  obtain ⟨e2, h2, m2⟩ := sps_ok m1 hg
  obtain ⟨b, q1, q2⟩ := m2.get hi
  cases q2
  exact ⟨_, by unfold ev; simp only [ownP_ok m ho, if_true, h1, h2, q1, hf] <;> rfl, m2.set i rfl⟩
theorem ev_andT (h : Ev x p r p1) (hg : gp p1 r = some d) (ht : truth d = some true) (hb : Ev y p1 r2 p2) : Ev (.and_ x y) p r2 p2 := fun e m => by
  obtain ⟨e1, h1, m1⟩ := h e m
  obtain ⟨e2, h2, m2⟩ := hb e1 m1
  exact ⟨e2, by unfold ev; simp only [h1, gp_ok m1 hg, ht]; exact h2, m2⟩
theorem ev_andF (h : Ev x p r p1) (hg : gp p1 r = some d) (ht : truth d = some false) : Ev (.and_ x y) p r p1 := fun e m => by
  obtain ⟨e1, h1, m1⟩ := h e m
  exact ⟨e1, by unfold ev; simp only [h1, gp_ok m1 hg, ht], m1⟩
theorem ev_orF (h : Ev x p r p1) (hg : gp p1 r = some d) (ht : truth d = some false) (hb : Ev y p1 r2 p2) : Ev (.or_ x y) p r2 p2 := fun e m => by
  obtain ⟨e1, h1, m1⟩ := h e m
  obtain ⟨e2, h2, m2⟩ := hb e1 m1
  exact ⟨e2, by unfold ev; simp only [h1, gp_ok m1 hg, ht]; exact h2, m2⟩
theorem ev_orT (h : Ev x p r p1) (hg : gp p1 r = some d) (ht : truth d = some true) : Ev (.or_ x y) p r p1 := fun e m => by
  obtain ⟨e1, h1, m1⟩ := h e m
  exact ⟨e1, by unfold ev; simp only [h1, gp_ok m1 hg, ht], m1⟩
/-- bools -/
theorem ev_andB {a b : Bool} (h : Ev x p (.pers (.bl a)) p1) (hb : a = true → Ev y p1 (.pers (.bl b)) p1) : Ev (.and_ x y) p (.pers (.bl (a && b))) p1 := by
  cases a with
  | true => exact ev_andT h rfl rfl (hb rfl)
  | false => exact ev_andF h rfl rfl
theorem ev_orB {a b : Bool} (h : Ev x p (.pers (.bl a)) p1) (hb : a = false → Ev y p1 (.pers (.bl b)) p1) : Ev (.or_ x y) p (.pers (.bl (a || b))) p1 := by
  cases a with
  | true => exact ev_orT h rfl rfl
  | false => exact ev_orF h rfl rfl (hb rfl)
theorem ev_ite {c : Bool} (h : Ev x p r p1) (hg : gp p1 r = some d) (ht : truth d = some c) (ha : c = true → Ev y p1 r2 p2) (hb : c = false → Ev z p1 r2 p2) : Ev (.ite x y z) p r2 p2 := fun e m => by
  obtain ⟨e1, h1, m1⟩ := h e m
  cases c with
  | true =>
    obtain ⟨e2, h2, m2⟩ := ha rfl e1 m1
    exact ⟨e2, by unfold ev; simp only [h1, gp_ok m1 hg, ht]; exact h2, m2⟩
  | false =>
    obtain ⟨e2, h2, m2⟩ := hb rfl e1 m1
    exact ⟨e2, by unfold ev; simp only [h1, gp_ok m1 hg, ht]; exact h2, m2⟩
theorem ev_chain {a b : Bool} {ra rb rc : Rv} (hx : Ev x p ra p1) (hy : Ev y p1 rb p2) (hg : gps p2 [ra, rb] = some ds) (hf : f ds = some (.bl a)) (hz : a = true → Ev z p2 rc p2) (hg2 : gps p2 [rb, rc] = some ds2) (hf2 : a = true → g ds2 = some (.bl b)) : Ev (.chain f g x y z) p (.pers (.bl (a && b))) p2 := fun e m => by
  obtain ⟨e1, h1, m1⟩ := hx e m
  obtain ⟨e2, h2, m2⟩ := hy e1 m1
  cases a with
  | true =>
    obtain ⟨e3, h3, m3⟩ := hz rfl e2 m2
    exact ⟨e3, by unfold ev; simp only [h1, h2, gps_ok m2 hg, hf, h3, gps_ok m3 hg2, hf2 rfl] <;> rfl, m3⟩
  | false => exact ⟨e2, by unfold ev; simp only [h1, h2, gps_ok m2 hg, hf] <;> rfl, m2⟩
theorem evt_n : Evt [] p true p := fun e m => ⟨e, by unfold evt; rfl, m⟩
theorem evt_c {b : Bool} (h : Ev x p r p1) (hg : gp p1 r = some d) (ht : truth d = some b) : Evt [x] p b p1 := fun e m => by
  obtain ⟨e1, h1, m1⟩ := h e m
  exact ⟨e1, by unfold evt; simp only [h1, gp_ok m1 hg, ht], m1⟩
/-! ### what is walked -/
def It (g : List D → Option (List D)) (xs : List Ex) (p : Pt) (items : List D) (p' : Pt) : Prop := ∀ e, Mt p e → ∃ rs e1 ds e2, evs xs e = some (rs, e1) ∧ settles e1 rs = some (ds, e2) ∧ g ds = some items ∧ Mt p' e2
theorem it_of {g : List D → Option (List D)} {items : List D} (h : Evs xs p rs p1) (hs : sps p1 rs = some (ds, p2)) (hg : g ds = some items) : It g xs p items p2 := fun e m => by
  obtain ⟨e1, h1, m1⟩ := h e m
  obtain ⟨e2, h2, m2⟩ := sps_ok m1 hs
  exact ⟨rs, e1, ds, e2, h1, h2, hg, m2⟩
/-! ### comprehensions -/
def wipeP (p : Pt) : List Nat → Pt
  | [] => p
  | v :: vs => (wipeP p vs).set v (.ex .un)
def backP (p0 p : Pt) : List Nat → Pt
  | [] => p
  | v :: vs => (match p0[v]? with
    | some s => (backP p0 p vs).set v s
    | none => backP p0 p vs)
def softP (p : Pt) (vs : List Nat) : Bool := vs.all fun v => match p[v]? with
  | some s => s.noOw
  | none => false
theorem Mt.wipe {e : Env'} (m : Mt p e) : ∀ (vs : List Nat), Mt (wipeP p vs) (wipeE e vs)
  | [] => m
  | v :: vs => (Mt.wipe m vs).set v rfl
theorem Mt.len : ∀ {p : Pt} {e : Env'}, Mt p e → p.length = e.length
  | _, _, .nil => rfl
  | _, _, .cons _ t => congrArg Nat.succ t.len
theorem Mt.back {e0 e : Env'} {p0 p : Pt} (m0 : Mt p0 e0) (m : Mt p e) : ∀ (vs : List Nat), Mt (backP p0 p vs) (backE e0 e vs)
  | [] => m
  | v :: vs => by
    unfold backP backE
    cases q : p0[v]? with
    | none =>
      have : e0[v]? = none := by
        rw [List.getElem?_eq_none_iff] at q ⊢
        rw [← m0.len]; exact q
      rw [this]
      exact Mt.back m0 m vs
    | some s =>
      obtain ⟨b, h1, h2⟩ := m0.get q
      rw [h1]
      exact (Mt.back m0 m vs).set v h2
theorem Mt.softs {e : Env'} {vs : List Nat} (m : Mt p e) (h : softP p vs = true) : softE e vs = true := by
  unfold softP at h
  unfold softE
  rw [List.all_eq_true] at h ⊢
  intro v hv
  have := h v hv
  split at this
  · rename_i s q
    obtain ⟨b, h1, h2⟩ := m.get q
    rw [h1]
    simpa using Sl.noOw_of h2 this
  · cases this
/-- turn by turn -/
def cmpL {β τ σ : Type} (t : β → σ → Option (List τ × σ)) : List β → σ → Option (List τ × σ)
  | [], s => some ([], s)
  | b :: l, s => (t b s).bind fun q => (cmpL t l q.2).bind fun q2 => some (q.1 ++ q2.1, q2.2)
theorem lcLoop_T {β τ σ : Type} {I : β → D} {O : τ → D} {P : σ → Pt} {t : β → σ → Option (List τ × σ)} {f : D → Env' → Option (List D × Env')} (turn : ∀ b s ys s', t b s = some (ys, s') → ∀ e, Mt (P s) e → ∃ e', f (I b) e = some (ys.map O, e') ∧ Mt (P s') e') : ∀ (l : List β) (s : σ) (ys : List τ) (s' : σ), cmpL t l s = some (ys, s') → ∀ e, Mt (P s) e → ∃ e', lcLoop f (l.map I) e = some (ys.map O, e') ∧ Mt (P s') e'
  | [], s, ys, s', h, e, m => by cases h; exact ⟨e, rfl, m⟩
  | b :: l, s, ys, s', h, e, m => by
    unfold cmpL at h
    obtain ⟨⟨y1, s1⟩, h1, h⟩ := Option.bind_eq_some_iff.mp h
    obtain ⟨⟨y2, s2⟩, h2, h⟩ := Option.bind_eq_some_iff.mp h
    cases h
    obtain ⟨e1, k1, m1⟩ := turn b s y1 s1 h1 e m
    obtain ⟨e2, k2, m2⟩ := lcLoop_T turn l s1 y2 _ h2 e1 m1
    refine ⟨e2, ?_, m2⟩
    rw [List.map_cons, lcLoop, k1]
    show (match lcLoop f (l.map I) e1 with
        | some (zs, e2) => some (y1.map O ++ zs, e2)
        | none => none) = _
    rw [k2, List.map_append] <;> rfl
def Turn (tg : Tg) (vs : List Nat) (cs : List Ex) (elt : Ex) (p : Pt) (d : D) (ys : List D) (p' : Pt) : Prop := ∀ e, Mt p e → ∃ e', lcTurn tg vs (fun e => evt cs e) (fun e => ev elt e) d e = some (ys, e') ∧ Mt p' e'
theorem turn_keep {tg : Tg} {vs : List Nat} {cs : List Ex} (hb : tg.bp d p = some p1) (hc : Evt cs p1 true p2) (he : Ev x p2 r p3) (hs : sp p3 r = some (d1, p4)) : Turn tg vs cs x p d [d1] (wipeP p4 vs) := fun e m => by
  obtain ⟨e1, h1, m1⟩ := Tg.bp_ok tg m hb
  obtain ⟨e2, h2, m2⟩ := hc e1 m1
  obtain ⟨e3, h3, m3⟩ := he e2 m2
  obtain ⟨e4, h4, m4⟩ := sp_ok m3 hs
  exact ⟨_, by unfold lcTurn; simp only [h1, h2, h3, h4], m4.wipe vs⟩
theorem turn_drop {tg : Tg} {vs : List Nat} {cs : List Ex} (hb : tg.bp d p = some p1) (hc : Evt cs p1 false p2) : Turn tg vs cs x p d [] (wipeP p2 vs) := fun e m => by
  obtain ⟨e1, h1, m1⟩ := Tg.bp_ok tg m hb
  obtain ⟨e2, h2, m2⟩ := hc e1 m1
  exact ⟨_, by unfold lcTurn; simp only [h1, h2], m2.wipe vs⟩
theorem ev_lc {β τ σ : Type} {I : β → D} {O : τ → D} (P : σ → Pt) {t : β → σ → Option (List τ × σ)} {g : List D → Option (List D)} {vs : List Nat} {tg : Tg} {cs : List Ex} {l : List β} {s s' : σ} {ys : List τ} (hi : It g xs p (l.map I) p1) (hs : softP p1 vs = true) (hw : wipeP p1 vs = P s)
    (turn : ∀ b s ys s', t b s = some (ys, s') → Turn tg vs cs x (P s) (I b) (ys.map O) (P s')) (h : cmpL t l s = some (ys, s')) (hl : ys.length ≤ 16000000) : Ev (.lc g xs vs tg cs x) p (.pers (.lst (ys.map O))) (backP p1 (P s') vs) := fun e m => by
  obtain ⟨rs, e1, ds, e2, h1, h2, h3, m2⟩ := hi e m
  have mw := m2.wipe vs
  rw [hw] at mw
  obtain ⟨e3, k, m3⟩ := lcLoop_T (f := lcTurn tg vs (fun e => evt cs e) (fun e => ev x e)) turn l s ys s' h (wipeE e2 vs) mw
  exact ⟨_, by unfold ev; simp only [h1, h2, h3, m2.softs hs, if_true, k]; rw [if_pos (by rw [List.length_map]; exact hl)], m2.back m3 vs⟩
def Turn2 (tg : Tg) (vs vs1 : List Nat) (tg2 : Tg) (cs1 : List Ex) (g2 : List D → Option (List D)) (as2 : List Ex) (cs : List Ex) (elt : Ex) (p : Pt) (d : D) (ys : List D) (p' : Pt) : Prop := ∀ e, Mt p e → ∃ e', lc2Turn tg vs vs1 tg2 (fun e => evt cs1 e) (fun e => match evs as2 e with
            | some (rs, e5) => (match settles e5 rs with
              | some (ds, e6) => (match g2 ds with
                | some l => some (l, e6)
                | none => none)
              | none => none)
            | none => none) (fun e => evt cs e) (fun e => ev elt e) d e = some (ys, e') ∧ Mt p' e'
theorem turn2_keep {β τ σ : Type} {I : β → D} {O : τ → D} (P : σ → Pt) {t : β → σ → Option (List τ × σ)} {tg tg2 : Tg} {vs vs1 : List Nat} {cs1 cs : List Ex} {g2 : List D → Option (List D)} {l : List β} {s s' : σ} {ys : List τ} (hb : tg.bp d p = some p1) (hc : Evt cs1 p1 true p2) (hi : It g2 xs p2 (l.map I) p3) (hs : softP p3 vs1 = true) (hw : wipeP p3 vs1 = P s)
    (turn : ∀ b s ys s', t b s = some (ys, s') → Turn tg2 vs1 cs x (P s) (I b) (ys.map O) (P s')) (h : cmpL t l s = some (ys, s')) : Turn2 tg vs vs1 tg2 cs1 g2 xs cs x p d (ys.map O) (wipeP (P s') vs) := fun e m => by
  obtain ⟨e1, h1, m1⟩ := Tg.bp_ok tg m hb
  obtain ⟨e2, h2, m2⟩ := hc e1 m1
  obtain ⟨rs, e3, ds, e4, k1, k2, k3, m4⟩ := hi e2 m2
  have mw := m4.wipe vs1
  rw [hw] at mw
  obtain ⟨e5, k, m5⟩ := lcLoop_T (f := lcTurn tg2 vs1 (fun e => evt cs e) (fun e => ev x e)) turn l s ys s' h (wipeE e4 vs1) mw
  exact ⟨_, by unfold lc2Turn; simp only [h1, h2, k1, k2, k3, m4.softs hs, if_true, k], m5.wipe vs⟩
theorem turn2_drop {tg tg2 : Tg} {vs vs1 : List Nat} {cs1 cs : List Ex} {g2 : List D → Option (List D)} (hb : tg.bp d p = some p1) (hc : Evt cs1 p1 false p2) : Turn2 tg vs vs1 tg2 cs1 g2 xs cs x p d [] (wipeP p2 vs) := fun e m => by
  obtain ⟨e1, h1, m1⟩ := Tg.bp_ok tg m hb
  obtain ⟨e2, h2, m2⟩ := hc e1 m1
  exact ⟨_, by unfold lc2Turn; simp only [h1, h2], m2.wipe vs⟩
theorem ev_lc2 {β τ σ : Type} {I : β → D} {O : τ → D} (P : σ → Pt) {t : β → σ → Option (List τ × σ)} {g g2 : List D → Option (List D)} {vs vs1 : List Nat} {tg tg2 : Tg} {cs1 cs as2 : List Ex} {l : List β} {s s' : σ} {ys : List τ} (hi : It g xs p (l.map I) p1) (hs : softP p1 vs = true) (hv : vs1.all (fun i => vs.contains i) = true) (hw : wipeP p1 vs = P s)
    (turn : ∀ b s ys s', t b s = some (ys, s') → Turn2 tg vs vs1 tg2 cs1 g2 as2 cs x (P s) (I b) (ys.map O) (P s')) (h : cmpL t l s = some (ys, s')) (hl : ys.length ≤ 16000000) : Ev (.lc2 g xs vs tg cs1 g2 as2 vs1 tg2 cs x) p (.pers (.lst (ys.map O))) (backP p1 (P s') vs) := fun e m => by
  obtain ⟨rs, e1, ds, e2, h1, h2, h3, m2⟩ := hi e m
  have mw := m2.wipe vs
  rw [hw] at mw
  obtain ⟨e3, k, m3⟩ := lcLoop_T (f := lc2Turn tg vs vs1 tg2 (fun e => evt cs1 e) (fun e => match evs as2 e with
            | some (rs, e5) => (match settles e5 rs with
              | some (ds, e6) => (match g2 ds with
                | some l => some (l, e6)
                | none => none)
              | none => none)
            | none => none) (fun e => evt cs e) (fun e => ev x e)) turn l s ys s' h (wipeE e2 vs) mw
  refine ⟨backE e2 e3 vs, ?_, m2.back m3 vs⟩
  unfold ev
  simp only [h1, h2, h3, m2.softs hs, hv, Bool.and_self, if_true]
  erw [k]
  show (if (ys.map O).length ≤ 16000000 then _ else _) = _
  rw [if_pos (by rw [List.length_map]; exact hl)]
/-! ### displays with stars -/
def Evd (fl : List Bool) (xs : List Ex) (p : Pt) (ds : List D) (p' : Pt) : Prop := ∀ e, Mt p e → ∃ e', evd fl xs e = some (ds, e') ∧ Mt p' e'
theorem evd_n {fl : List Bool} : Evd fl [] p [] p := fun e m => ⟨e, by unfold evd; rfl, m⟩
theorem evd_s {fl : List Bool} {l : List D} (h : Ev x p r p1) (hg : gp p1 r = some d) (hl : starD d = some l) (t : Evd fl xs p1 ds p2) : Evd (true :: fl) (x :: xs) p (l ++ ds) p2 := fun e m => by
  obtain ⟨e1, h1, m1⟩ := h e m
  obtain ⟨e2, h2, m2⟩ := t e1 m1
  exact ⟨e2, by unfold evd; simp only [h1, gp_ok m1 hg, hl, h2], m2⟩
theorem evd_c {fl : List Bool} (h : Ev x p r p1) (hs : sp p1 r = some (d, p2)) (t : Evd fl xs p2 ds p3) : Evd (false :: fl) (x :: xs) p (d :: ds) p3 := fun e m => by
  obtain ⟨e1, h1, m1⟩ := h e m
  obtain ⟨e2, h2, m2⟩ := sp_ok m1 hs
  obtain ⟨e3, h3, m3⟩ := t e2 m2
  exact ⟨e3, by unfold evd; simp only [h1, h2, h3], m3⟩
theorem ev_dspT {fl : List Bool} (h : Evd fl xs p ds p1) (hf : f ds = some d) : Ev (.dsp f fl xs) p (.pers d) p1 := fun e m => by
  obtain ⟨e1, h1, m1⟩ := h e m
  exact ⟨e1, by unfold ev; simp only [h1, hf], m1⟩
end
end Mi.T

/-! Typed mirrors: statements, loops, functions. -/
namespace Mi.T
open PySem PySem.Spec PyProof.Rows L2 GxR
def Nx (s : S) (p p' : Pt) : Prop := ∀ e, Mt p e → ∃ e', ex s e = some (.nx e') ∧ Mt p' e'
inductive Ctl (ρ σ : Type) where
  | nxt (s : σ)
  | brk (s : σ)
  | ret (r : ρ)
def Bk (s : S) (p p' : Pt) : Prop := ∀ e, Mt p e → ∃ e', ex s e = some (.bk e') ∧ Mt p' e'
/-- what a return leaves: a value, or an own thing given back -/
def outR (ko : Bool) (d : D) (e : Env') : Out := match ko with
  | true => .ro d e
  | false => .rt d e
def Rt (ko : Bool) (s : S) (p : Pt) (d : D) (q : Env' → Prop) : Prop := ∀ e, Mt p e → ∃ e', ex s e = some (outR ko d e') ∧ q e'
def Fin (ko : Bool) {ρ σ : Type} (s : S) (p : Pt) (c : Ctl ρ σ) (P : σ → Pt) (enc : ρ → D) (q : ρ → Env' → Prop) : Prop := match c with
  | .nxt st => Nx s p (P st)
  | .brk st => Bk s p (P st)
  | .ret r => Rt ko s p (enc r) (q r)
section
variable {ko : Bool} {ρ σ : Type} {a b s : S} {c : Ctl ρ σ} {P : σ → Pt} {enc : ρ → D} {q : ρ → Env' → Prop} {x y z : Ex} {xs : List Ex} {p p1 p2 p3 p' : Pt} {r r1 r2 : Rv} {rs : List Rv} {d d0 d1 d2 : D} {ds : List D} {i : Nat}
theorem fin_all {s' : S} (h : ∀ e o, ex s e = some o → (∀ e', o ≠ .ct e') → ex s' e = some o) (f : Fin ko s p c P enc q) : Fin ko s' p c P enc q := by
  cases c with
  | nxt st =>
      intro e m
      obtain ⟨e', h1, h2⟩ := f e m
      exact ⟨e', h e _ h1 (fun _ z => by first | cases z | (cases ko <;> cases z)), h2⟩
  | brk st =>
      intro e m
      obtain ⟨e', h1, h2⟩ := f e m
      exact ⟨e', h e _ h1 (fun _ z => by first | cases z | (cases ko <;> cases z)), h2⟩
  | ret r =>
      intro e m
      obtain ⟨e', h1, h2⟩ := f e m
      exact ⟨e', h e _ h1 (fun _ z => by first | cases z | (cases ko <;> cases z)), h2⟩
/-- from one state to the next -/
theorem fin_step {s1 s2 : S} (h : ∀ e, Mt p e → ∃ e1, Mt p1 e1 ∧ ex s1 e = ex s2 e1) (f : Fin ko s2 p1 c P enc q) : Fin ko s1 p c P enc q := by
  cases c with
  | nxt st =>
      intro e m
      obtain ⟨e1, m1, k⟩ := h e m
      obtain ⟨e', h1, h2⟩ := f e1 m1
      exact ⟨e', k.trans h1, h2⟩
  | brk st =>
      intro e m
      obtain ⟨e1, m1, k⟩ := h e m
      obtain ⟨e', h1, h2⟩ := f e1 m1
      exact ⟨e', k.trans h1, h2⟩
  | ret r =>
      intro e m
      obtain ⟨e1, m1, k⟩ := h e m
      obtain ⟨e', h1, h2⟩ := f e1 m1
      exact ⟨e', k.trans h1, h2⟩
theorem fin_seq (h : Nx a p p1) (f : Fin ko b p1 c P enc q) : Fin ko (.seq a b) p c P enc q := fin_step (fun e m => by
  obtain ⟨e1, h1, m1⟩ := h e m
  exact ⟨e1, m1, by rw [ex, h1]⟩) f
theorem fin_seqA {s1 s2 s3 : S} (f : Fin ko (.seq s1 (.seq s2 s3)) p c P enc q) : Fin ko (.seq (.seq s1 s2) s3) p c P enc q := by
  refine fin_step (s2 := .seq s1 (.seq s2 s3)) (fun e m => ⟨e, m, ?_⟩) f
  simp only [ex]
  cases ex s1 e with
  | none => rfl
  | some o => cases o <;> rfl
theorem fin_skip (f : Fin ko b p c P enc q) : Fin ko (.seq .skip b) p c P enc q := fin_seq (fun e m => ⟨e, by unfold ex; rfl, m⟩) f
theorem fin_ret (h : Ev x p r p1) (hs : sp p1 r = some (d, p2)) {w : ρ} (hd : d = enc w) (hq : ∀ e, Mt p2 e → q w e) : Fin false (.ret x) p (.ret w) P enc q := fun e m => by
  obtain ⟨e1, h1, m1⟩ := h e m
  obtain ⟨e2, h2, m2⟩ := sp_ok m1 hs
  refine ⟨e2, ?_, hq e2 m2⟩
  subst hd
  unfold ex
  simp only [h1, h2]
  rfl
theorem fin_retN {w : ρ} (hd : D.non = enc w) (hq : ∀ e, Mt p e → q w e) : Fin false .retN p (.ret w) P enc q := fun e m => ⟨e, by unfold ex; rw [hd]; rfl, hq e m⟩
theorem fin_seqR {w : ρ} {σ' : Type} {P' : σ' → Pt} (f : Fin ko a p (.ret w : Ctl ρ σ') P' enc q) : Fin ko (.seq a b) p (.ret w : Ctl ρ σ) P enc q := fun e m => by
  obtain ⟨e', h1, h2⟩ := f e m
  exact ⟨e', by unfold ex; rw [h1]; cases ko <;> rfl, h2⟩
theorem fin_nx (mk : List Nat) {st : σ} (h : Nx s p p1) (hm : maskOk mk p1 = true) (he : maskP mk p1 = P st) : Fin ko s p (.nxt st) P enc q := fun e m => by
  obtain ⟨e', h1, h2⟩ := h e m
  exact ⟨e', h1, he ▸ h2.mask mk hm⟩
theorem fin_brk (mk : List Nat) {st : σ} (hm : maskOk mk p = true) (he : maskP mk p = P st) : Fin ko .brk p (.brk st) P enc q := fun e m => ⟨e, by unfold ex; rfl, he ▸ m.mask mk hm⟩
theorem nx_skip : Nx .skip p p := fun e m => ⟨e, by unfold ex; rfl, m⟩
theorem nx_ifT (h : Ev x p r p1) (hg : gp p1 r = some d) (ht : truth d = some true) (f : Nx a p1 p2) : Nx (.iff x a b) p p2 := fun e m => by
  obtain ⟨e1, h1, m1⟩ := h e m
  obtain ⟨e2, h2, m2⟩ := f e1 m1
  exact ⟨e2, by unfold ex; simp only [h1, gp_ok m1 hg, ht]; exact h2, m2⟩
theorem fin_ifT (h : Ev x p r p1) (hg : gp p1 r = some d) (ht : truth d = some true) (f : Fin ko a p1 c P enc q) : Fin ko (.iff x a b) p c P enc q := fin_step (fun e m => by
  obtain ⟨e1, h1, m1⟩ := h e m
  exact ⟨e1, m1, by rw [ex]; simp only [h1, gp_ok m1 hg, ht]⟩) f
theorem fin_ifF (h : Ev x p r p1) (hg : gp p1 r = some d) (ht : truth d = some false) (f : Fin ko b p1 c P enc q) : Fin ko (.iff x a b) p c P enc q := fin_step (fun e m => by
  obtain ⟨e1, h1, m1⟩ := h e m
  exact ⟨e1, m1, by rw [ex]; simp only [h1, gp_ok m1 hg, ht]⟩) f
theorem fin_sifT (h : Ev x p r p1) (hg : gp p1 r = some d) (ht : truth d = some true) (f : Fin ko (.seq a s) p1 c P enc q) : Fin ko (.seq (.iff x a b) s) p c P enc q := fin_step (fun e m => by
  obtain ⟨e1, h1, m1⟩ := h e m
  refine ⟨e1, m1, ?_⟩
  simp only [ex, h1, gp_ok m1 hg, ht]) f
theorem fin_sifF (h : Ev x p r p1) (hg : gp p1 r = some d) (ht : truth d = some false) (f : Fin ko (.seq b s) p1 c P enc q) : Fin ko (.seq (.iff x a b) s) p c P enc q := fin_step (fun e m => by
  obtain ⟨e1, h1, m1⟩ := h e m
  refine ⟨e1, m1, ?_⟩
  simp only [ex, h1, gp_ok m1 hg, ht]) f
/-! ### stores -/
theorem nx_set {tg : Tg} (h : Ev x p r p1) (hs : sp p1 r = some (d, p2)) (hb : tg.bp d p2 = some p3) : Nx (.set tg x) p p3 := fun e m => by
  obtain ⟨e1, h1, m1⟩ := h e m
  obtain ⟨e2, h2, m2⟩ := sp_ok m1 hs
  obtain ⟨e3, h3, m3⟩ := Tg.bp_ok tg m2 hb
  exact ⟨e3, by unfold ex; simp only [h1, h2, h3], m3⟩
def noIoP (p : Pt) (i : Nat) : Bool := match p[i]? with
  | some s => s.noIo
  | none => false
theorem noIo_get {e : Env'} (m : Mt p e) (h : noIoP p i = true) : ∃ b, e[i]? = some b ∧ b.noIo = true := by
  unfold noIoP at h
  split at h
  · rename_i s q
    obtain ⟨b, h1, h2⟩ := m.get q
    exact ⟨b, h1, Sl.noIo_of h2 h⟩
  · cases h
theorem nx_setO (h : Ev x p (.pers d) p1) (hi : noIoP p1 i = true) : Nx (.setO i x) p (p1.set i (.ex (.ow d))) := fun e m => by
  obtain ⟨e1, h1, m1⟩ := h e m
  obtain ⟨b, k1, k2⟩ := noIo_get m1 hi
  refine ⟨e1.set i (.ow d), ?_, m1.set i rfl⟩
  unfold ex
  simp only [h1, k1]
  cases b <;> first | rfl | cases k2
theorem nx_par {j : Nat} {a b : Ex} {ra rb : Rv} {da db : D} (h : Evs [a, b] p [ra, rb] p1) (hs : sps p1 [ra, rb] = some ([da, db], p2)) (hb : Tg.bps [.nm i, .nm j] [da, db] p2 = some p3) : Nx (.par i j a b) p p3 := fun e m => by
  obtain ⟨e1, h1, m1⟩ := h e m
  obtain ⟨e2, h2, m2⟩ := sps_ok m1 hs
  obtain ⟨e3, h3, m3⟩ := Tg.bps_ok _ m2 hb
  exact ⟨e3, by unfold ex; simp only [h1, h2, h3], m3⟩
def Evo (fl : List Bool) (xs : List Ex) (p : Pt) (ds : List D) (p' : Pt) : Prop := ∀ e, Mt p e → ∃ e', evo fl xs e = some (ds, e') ∧ Mt p' e'
theorem evo_n {fl : List Bool} : Evo fl [] p [] p := fun e m => ⟨e, by unfold evo; rfl, m⟩
theorem evo_o {fl : List Bool} (h : Ev x p (.pers d) p1) (t : Evo fl xs p1 ds p2) : Evo (true :: fl) (x :: xs) p (d :: ds) p2 := fun e m => by
  obtain ⟨e1, h1, m1⟩ := h e m
  obtain ⟨e2, h2, m2⟩ := t e1 m1
  exact ⟨e2, by unfold evo; simp only [h1, h2], m2⟩
theorem evo_c {fl : List Bool} (h : Ev x p r p1) (hs : sp p1 r = some (d, p2)) (t : Evo fl xs p2 ds p3) : Evo (false :: fl) (x :: xs) p (d :: ds) p3 := fun e m => by
  obtain ⟨e1, h1, m1⟩ := h e m
  obtain ⟨e2, h2, m2⟩ := sp_ok m1 hs
  obtain ⟨e3, h3, m3⟩ := t e2 m2
  exact ⟨e3, by unfold evo; simp only [h1, h2, h3], m3⟩
def storesP : List Nat → List Bool → List D → Pt → Option Pt
  | [], [], [], p => some p
  | i :: is, b :: fl, d :: ds, p => (match storesP is fl ds p with
    | some p1 => if noIoP p1 i then some (p1.set i (.ex (if b then .ow d else .im d))) else none
    | none => none)
  | _, _, _, _ => none
theorem storesP_ok : ∀ {is : List Nat} {fl : List Bool} {ds : List D} {p p' : Pt} {e : Env'}, Mt p e → storesP is fl ds p = some p' → ∃ e', storesO is fl ds e = some e' ∧ Mt p' e'
  | [], [], [], p, p', e, m, h => by cases h; exact ⟨e, rfl, m⟩
  | i :: is, b :: fl, d :: ds, p, p', e, m, h => by
    unfold storesP at h
    split at h
    · rename_i p1 q
      split at h
      · rename_i hz
        cases h
        obtain ⟨e1, h1, m1⟩ := storesP_ok m q
        obtain ⟨c, k1, k2⟩ := noIo_get m1 hz
        refine ⟨e1.set i (if b then .ow d else .im d), ?_, m1.set i rfl⟩
        unfold storesO
        simp only [h1, k1]
        cases c <;> first | rfl | cases k2
      · cases h
    · cases h
  | [], [], _ :: _, _, _, _, _, h => by cases h
  | [], _ :: _, _, _, _, _, _, h => by cases h
  | _ :: _, [], _, _, _, _, _, h => by cases h
  | _ :: _, _ :: _, [], _, _, _, _, h => by cases h
theorem nx_parO {is : List Nat} {fl : List Bool} (h : Evo fl xs p ds p1) (hs : storesP is fl ds p1 = some p2) : Nx (.parO is fl xs) p p2 := fun e m => by
  obtain ⟨e1, h1, m1⟩ := h e m
  obtain ⟨e2, h2, m2⟩ := storesP_ok m1 hs
  exact ⟨e2, by unfold ex; simp only [h1, h2], m2⟩
theorem nx_exp (h : Ev x p r p1) : Nx (.exp x) p p1 := fun e m => by
  obtain ⟨e1, h1, m1⟩ := h e m
  exact ⟨e1, by unfold ex; simp only [h1], m1⟩
def lstP (p : Pt) (i : Nat) : Bool := match p[i]? with
  | some (.ex (.ow (.lst _))) => true
  | some (.ex (.io (.lst _))) => true
  | _ => false
theorem lstP_ok {e : Env'} (m : Mt p e) (h : lstP p i = true) : lstAt e i = true := by
  unfold lstP at h
  split at h <;> first | cases h | skip
  all_goals
    rename_i q
    obtain ⟨c, h1, h2⟩ := m.get q
    cases h2
    unfold lstAt
    rw [h1]
theorem nx_app {l : List D} (ho : lstP p i = true) (h : Ev x p r p1) (hs : sp p1 r = some (d, p2)) (hi : p2[i]? = some (.ex (.ow (.lst l)))) (hl : l.length < 16000000) : Nx (.app i x) p (p2.set i (.ex (.ow (.lst (l ++ [d]))))) := fun e m => by
  obtain ⟨e1, h1, m1⟩ := h e m
  obtain ⟨e2, h2, m2⟩ := sp_ok m1 hs
  obtain ⟨c, k1, k2⟩ := m2.get hi
  cases k2
  exact ⟨_, by unfold ex; simp only [lstP_ok m ho, if_true, h1, h2, k1, hl], m2.set i rfl⟩
theorem nx_appI {l : List D} (ho : lstP p i = true) (h : Ev x p r p1) (hs : sp p1 r = some (d, p2)) (hi : p2[i]? = some (.ex (.io (.lst l)))) (hl : l.length < 16000000) : Nx (.app i x) p (p2.set i (.ex (.io (.lst (l ++ [d]))))) := fun e m => by
  obtain ⟨e1, h1, m1⟩ := h e m
  obtain ⟨e2, h2, m2⟩ := sp_ok m1 hs
  obtain ⟨c, k1, k2⟩ := m2.get hi
  cases k2
  exact ⟨_, by unfold ex; simp only [lstP_ok m ho, if_true, h1, h2, k1, hl], m2.set i rfl⟩
theorem nx_sub {f : D → D → D → Option D} {k : Ex} {rx rk : Rv} {o o' dk : D} (ho : ownP p i = true) (h : Evs [x, k] p [rx, rk] p1) (hs : sps p1 [rx, rk] = some ([d, dk], p2)) (hi : p2[i]? = some (.ex (.ow o))) (hf : f o dk d = some o') : Nx (.sub f i k x) p (p2.set i (.ex (.ow o'))) := fun e m => by
  obtain ⟨e1, h1, m1⟩ := h e m
  obtain ⟨e2, h2, m2⟩ := sps_ok m1 hs
  obtain ⟨c, k1, k2⟩ := m2.get hi
  cases k2
  exact ⟨_, by unfold ex; simp only [ownP_ok m ho, if_true, h1, h2, k1, hf], m2.set i rfl⟩
theorem nx_subI {f : D → D → D → Option D} {k : Ex} {rx rk : Rv} {o o' dk : D} (ho : ownP p i = true) (h : Evs [x, k] p [rx, rk] p1) (hs : sps p1 [rx, rk] = some ([d, dk], p2)) (hi : p2[i]? = some (.ex (.io o))) (hf : f o dk d = some o') : Nx (.sub f i k x) p (p2.set i (.ex (.io o'))) := fun e m => by
  obtain ⟨e1, h1, m1⟩ := h e m
  obtain ⟨e2, h2, m2⟩ := sps_ok m1 hs
  obtain ⟨c, k1, k2⟩ := m2.get hi
  cases k2
  exact ⟨_, by unfold ex; simp only [ownP_ok m ho, if_true, h1, h2, k1, hf], m2.set i rfl⟩
theorem nx_mov {φ : List D → Option D} (h : Evs xs p rs p1) (hs : sps p1 rs = some (ds, p2)) (hi : p2[i]? = some (.ex (.ow d0))) (hf : φ (ds ++ [d0]) = some d) : Nx (.mov i φ xs) p (p2.set i (.ex (.ow d))) := fun e m => by
  obtain ⟨e1, h1, m1⟩ := h e m
  obtain ⟨e2, h2, m2⟩ := sps_ok m1 hs
  obtain ⟨c, k1, k2⟩ := m2.get hi
  cases k2
  exact ⟨_, by unfold ex; simp only [h1, h2, k1, hf], m2.set i rfl⟩
/-! ### loops -/
def fld {β σ : Type} (t : β → σ → Option σ) : List β → σ → Option σ
  | [], s => some s
  | b :: l, s => (t b s).bind fun s1 => fld t l s1
def fldR {β ρ σ : Type} (t : β → σ → Option (Ctl ρ σ)) : List β → σ → Option (Ctl ρ σ)
  | [], s => some (.nxt s)
  | b :: l, s => (t b s).bind fun c => match c with
    | .nxt s1 => fldR t l s1
    | .brk s1 => some (.nxt s1)
    | .ret r => some (.ret r)
theorem st_for {β : Type} {I : β → D} (P : σ → Pt) {t : β → σ → Option σ} {g : List D → Option (List D)} {tg : Tg} {l : List β} {st st' : σ} (hi : It g xs p (l.map I) p1) (mk : List Nat) (hm : maskOk mk p1 = true) (hp : maskP mk p1 = P st)
    (body : ∀ b st st', t b st = some st' → ∃ p2, tg.bp (I b) (P st) = some p2 ∧ Fin false s p2 (.nxt st' : Ctl Unit σ) P (fun _ => .non) (fun _ _ => True)) (h : fld t l st = some st') : Nx (.forr g xs tg s) p (P st') := fun e m => by
  obtain ⟨rs, e1, ds, e2, h1, h2, h3, m2⟩ := hi e m
  have mp : Mt (P st) e2 := hp ▸ m2.mask mk hm
  have key : ∀ (l : List β) (st st' : σ) (e : Env'), fld t l st = some st' → Mt (P st) e → ∃ e', forLoop (fun d e => match tg.bind d e with
          | some e3 => ex s e3
          | none => none) (l.map I) e = some (.nx e') ∧ Mt (P st') e' := by
    intro l
    induction l with
    | nil => intro st st' e h m; cases h; exact ⟨e, rfl, m⟩
    | cons b l ih =>
      intro st st' e h m
      unfold fld at h
      obtain ⟨s1, k1, k2⟩ := Option.bind_eq_some_iff.mp h
      obtain ⟨p2, b1, b2⟩ := body b st s1 k1
      obtain ⟨e3, b3, m3⟩ := Tg.bp_ok tg m b1
      obtain ⟨e4, b4, m4⟩ := b2 e3 m3
      obtain ⟨e5, b5, m5⟩ := ih s1 st' e4 k2 m4
      exact ⟨e5, by rw [List.map_cons, forLoop]; simp only [b3, b4]; exact b5, m5⟩
  obtain ⟨e', k, m'⟩ := key l st st' e2 h mp
  exact ⟨e', by unfold ex; simp only [h1, h2, h3]; exact k, m'⟩
theorem st_forR {β : Type} {I : β → D} (P : σ → Pt) {t : β → σ → Option (Ctl ρ σ)} {g : List D → Option (List D)} {tg : Tg} {l : List β} {st : σ} {c : Ctl ρ σ} (hi : It g xs p (l.map I) p1) (mk : List Nat) (hm : maskOk mk p1 = true) (hp : maskP mk p1 = P st)
    (body : ∀ b st c, t b st = some c → ∃ p2, tg.bp (I b) (P st) = some p2 ∧ Fin ko s p2 c P enc q) (h : fldR t l st = some c) : Fin ko (.forr g xs tg s) p c P enc q := by
  have key : ∀ (l : List β) (st : σ) (c : Ctl ρ σ) (e : Env'), fldR t l st = some c → Mt (P st) e → ∃ e' o, forLoop (fun d e => match tg.bind d e with
          | some e3 => ex s e3
          | none => none) (l.map I) e = some o ∧ (match c with
            | .nxt s => o = .nx e' ∧ Mt (P s) e'
            | .brk s => False
            | .ret r => o = outR ko (enc r) e' ∧ q r e') := by
    intro l
    induction l with
    | nil => intro st c e h m; cases h; exact ⟨e, _, rfl, rfl, m⟩
    | cons b l ih =>
      intro st c e h m
      unfold fldR at h
      obtain ⟨c1, k1, k2⟩ := Option.bind_eq_some_iff.mp h
      obtain ⟨p2, b1, b2⟩ := body b st c1 k1
      obtain ⟨e3, b3, m3⟩ := Tg.bp_ok tg m b1
      cases c1 with
      | nxt s1 =>
        obtain ⟨e4, b4, m4⟩ := b2 e3 m3
        obtain ⟨e5, o, b5, m5⟩ := ih s1 c e4 k2 m4
        exact ⟨e5, o, by rw [List.map_cons, forLoop]; simp only [b3, b4]; exact b5, m5⟩
      | brk s1 =>
        obtain ⟨e4, b4, m4⟩ := b2 e3 m3
        cases k2
        exact ⟨e4, .nx e4, by rw [List.map_cons, forLoop]; simp only [b3, b4], rfl, m4⟩
      | ret r =>
        obtain ⟨e4, b4, m4⟩ := b2 e3 m3
        cases k2
        exact ⟨e4, outR ko (enc r) e4, by rw [List.map_cons, forLoop]; simp only [b3, b4]; cases ko <;> rfl, rfl, m4⟩
  cases c with
  | nxt st' =>
      intro e m
      obtain ⟨rs, e1, ds, e2, h1, h2, h3, m2⟩ := hi e m
      obtain ⟨e', o, k, m'⟩ := key l st _ e2 h (hp ▸ m2.mask mk hm)
      obtain ⟨rfl, m'⟩ := m'
      exact ⟨e', by unfold ex; simp only [h1, h2, h3]; exact k, m'⟩
  | brk st' =>
      intro e m
      obtain ⟨rs, e1, ds, e2, h1, h2, h3, m2⟩ := hi e m
      obtain ⟨e', o, k, m'⟩ := key l st _ e2 h (hp ▸ m2.mask mk hm)
      exact m'.elim
  | ret r =>
      intro e m
      obtain ⟨rs, e1, ds, e2, h1, h2, h3, m2⟩ := hi e m
      obtain ⟨e', o, k, m'⟩ := key l st _ e2 h (hp ▸ m2.mask mk hm)
      obtain ⟨rfl, m'⟩ := m'
      exact ⟨e', by unfold ex; simp only [h1, h2, h3]; exact k, m'⟩
theorem whl0 {c : Env' → Option (Bool × Env')} {f : Env' → Option Out} {n : Nat} {e e1 : Env'} (h : c e = some (false, e1)) : whileLoop c f (n + 1) e = some (.nx e1) := by
  rw [whileLoop, h]
theorem whl1 {c : Env' → Option (Bool × Env')} {f : Env' → Option Out} {n : Nat} {e e1 e2 : Env'} (h : c e = some (true, e1)) (h2 : f e1 = some (.nx e2)) : whileLoop c f (n + 1) e = whileLoop c f n e2 := by
  rw [whileLoop, h]
  simp only [h2]
theorem whl2 {c : Env' → Option (Bool × Env')} {f : Env' → Option Out} {n : Nat} {e e1 e2 : Env'} (h : c e = some (true, e1)) (h2 : f e1 = some (.bk e2)) : whileLoop c f (n + 1) e = some (.nx e2) := by
  rw [whileLoop, h]
  simp only [h2]
theorem whl3 {ko : Bool} {c : Env' → Option (Bool × Env')} {f : Env' → Option Out} {n : Nat} {e e1 e2 : Env'} {v : D} (h : c e = some (true, e1)) (h2 : f e1 = some (outR ko v e2)) : whileLoop c f (n + 1) e = some (outR ko v e2) := by
  rw [whileLoop, h]
  simp only [h2]
  cases ko <;> rfl
def whl {ρ σ : Type} (tc : σ → Option Bool) (t : σ → Option (Ctl ρ σ)) : Nat → σ → Option (Ctl ρ σ)
  | 0, _ => none
  | n + 1, s => (tc s).bind fun k => match k with
    | false => some (.nxt s)
    | true => (t s).bind fun c => match c with
      | .nxt s1 => whl tc t n s1
      | .brk s1 => some (.nxt s1)
      | .ret r => some (.ret r)
theorem st_while (P : σ → Pt) {tc : σ → Option Bool} {t : σ → Option (Ctl ρ σ)} {n : Nat} {st : σ} {c : Ctl ρ σ} (mk : List Nat) (hm : maskOk mk p = true) (hp : maskP mk p = P st)
    (cond : ∀ st k, tc st = some k → Evt [x] (P st) k (P st)) (body : ∀ st c, tc st = some true → t st = some c → Fin ko s (P st) c P enc q) (h : whl tc t n st = some c) : Fin ko (.whil n x s) p c P enc q := by
  have key : ∀ (n : Nat) (st : σ) (c : Ctl ρ σ) (e : Env'), whl tc t n st = some c → Mt (P st) e → ∃ e' o, whileLoop (fun e => match ev x e with
      | some (r, e1) => (match r.get e1 with
        | some d => (match truth d with
          | some t => some (t, e1)
          | none => none)
        | none => none)
      | none => none) (fun e => ex s e) n e = some o ∧ (match c with
            | .nxt s => o = .nx e' ∧ Mt (P s) e'
            | .brk s => False
            | .ret r => o = outR ko (enc r) e' ∧ q r e') := by
    intro n
    induction n with
    | zero => intro st c e h m; cases h
    | succ n ih =>
      intro st c e h m
      unfold whl at h
      obtain ⟨k, k1, k2⟩ := Option.bind_eq_some_iff.mp h
      obtain ⟨e1, c1, m1⟩ := cond st k k1 e m
      rw [evt] at c1
      cases k with
      | false =>
        cases k2
        exact ⟨e1, .nx e1, whl0 c1, rfl, m1⟩
      | true =>
        obtain ⟨c2, k3, k4⟩ := Option.bind_eq_some_iff.mp k2
        have b2 := body st c2 k1 k3
        cases c2 with
        | nxt s1 =>
          obtain ⟨e4, b4, m4⟩ := b2 e1 m1
          obtain ⟨e5, o, b5, m5⟩ := ih s1 c e4 k4 m4
          exact ⟨e5, o, (whl1 c1 b4).trans b5, m5⟩
        | brk s1 =>
          obtain ⟨e4, b4, m4⟩ := b2 e1 m1
          cases k4
          exact ⟨e4, .nx e4, whl2 c1 b4, rfl, m4⟩
        | ret r =>
          obtain ⟨e4, b4, m4⟩ := b2 e1 m1
          cases k4
          exact ⟨e4, outR ko (enc r) e4, whl3 c1 b4, rfl, m4⟩
  cases c with
  | nxt st' =>
      intro e m
      obtain ⟨e', o, k, m'⟩ := key n st _ e h (hp ▸ m.mask mk hm)
      obtain ⟨rfl, m'⟩ := m'
      exact ⟨e', by unfold ex; exact k, m'⟩
  | brk st' =>
      intro e m
      obtain ⟨e', o, k, m'⟩ := key n st _ e h (hp ▸ m.mask mk hm)
      exact m'.elim
  | ret r =>
      intro e m
      obtain ⟨e', o, k, m'⟩ := key n st _ e h (hp ▸ m.mask mk hm)
      obtain ⟨rfl, m'⟩ := m'
      exact ⟨e', by unfold ex; exact k, m'⟩
end
section
variable {ρ σ : Type} {P : σ → Pt} {enc : ρ → D} {q : ρ → Env' → Prop} {x : Ex} {p p1 : Pt} {d : D} {i : Nat}
theorem fin_retO (h : Ev x p (.pers d) p1) {w : ρ} (hd : d = enc w) (hq : ∀ e, Mt p1 e → q w e) : Fin true (.retO x) p (.ret w) P enc q := fun e m => by
  obtain ⟨e1, h1, m1⟩ := h e m
  refine ⟨e1, ?_, hq e1 m1⟩
  subst hd
  unfold ex
  simp only [h1]
  rfl
theorem fin_retV (hi : p[i]? = some (.ex (.ow d))) {w : ρ} (hd : d = enc w) (hq : ∀ e, Mt p e → q w e) : Fin true (.retV i) p (.ret w) P enc q := fun e m => by
  obtain ⟨c, h1, h2⟩ := m.get hi
  cases h2
  refine ⟨e, ?_, hq e m⟩
  subst hd
  unfold ex
  simp only [h1]
  rfl
end
/-! ### functions -/
theorem mt_map : ∀ (ds : List D) {p : Pt} {e : Env'}, Mt p e → Mt (ds.map (fun d => Sl.ex (.im d)) ++ p) (ds.map B.im ++ e)
  | [], _, _, h => h
  | d :: ds, _, _, h => .cons rfl (mt_map ds h)
theorem mt_un : ∀ n : Nat, Mt (List.replicate n (.ex .un)) (List.replicate n .un)
  | 0 => .nil
  | n + 1 => .cons rfl (mt_un n)
def inI (N : Nat) (ds : List D) : Pt := ds.map (fun d => Sl.ex (.im d)) ++ List.replicate (N - ds.length) (.ex .un)
def inO (N : Nat) (d0 : D) (ds : List D) : Pt := .ex (.io d0) :: (ds.map (fun d => Sl.ex (.im d)) ++ List.replicate (N - (ds.length + 1)) (.ex .un))
theorem run_I {n N : Nat} {s : S} {ds : List D} {ρ : Type} {enc : ρ → D} {w : ρ} {p : Pt} (hp : inI N ds = p) (f : Fin false s p (.ret w : Ctl ρ Unit) (fun _ => []) enc (fun _ _ => True)) (hn : ds.length = n) : runI n N s ds = some (enc w) := by
  subst hp
  obtain ⟨e', h, _⟩ := f _ ((mt_map ds (mt_un _)))
  unfold runI initI
  rw [if_pos hn, h]
  rfl
theorem run_In {n N : Nat} {s : S} {ds : List D} {p p' : Pt} (hp : inI N ds = p) (f : Fin false s p (.nxt () : Ctl Unit Unit) (fun _ => p') (fun _ => .non) (fun _ _ => True)) (hn : ds.length = n) : runI n N s ds = some .non := by
  subst hp
  obtain ⟨e', h, _⟩ := f _ ((mt_map ds (mt_un _)))
  unfold runI initI
  rw [if_pos hn, h]
theorem run_O {n N : Nat} {s : S} {d0 : D} {ds : List D} {ρ : Type} {enc es : ρ → D} {w : ρ} {p : Pt} (hp : inO N d0 ds = p) (f : Fin false s p (.ret w : Ctl ρ Unit) (fun _ => []) enc (fun r e => outO e = some (es r))) (hn : ds.length + 1 = n) : runO n N s (d0 :: ds) = some (enc w, es w) := by
  subst hp
  obtain ⟨e', h, q⟩ := f _ (.cons rfl (mt_map ds (mt_un _)))
  unfold runO initO
  simp only
  rw [if_pos hn, h]
  show (outO e').map _ = _
  rw [q]
  rfl
def inM (N : Nat) (ds : List D) (d0 : D) : Pt := ds.map (fun d => Sl.ex (.im d)) ++ (.ex (.ow d0) :: List.replicate (N - (ds.length + 1)) (.ex .un))
theorem run_M {n N : Nat} {s : S} {ds0 ds : List D} {d0 : D} {ρ : Type} {enc : ρ → D} {w : ρ} {p : Pt} (hp : inM N ds d0 = p) (f : Fin true s p (.ret w : Ctl ρ Unit) (fun _ => []) enc (fun _ _ => True)) (hd : ds0 = ds ++ [d0]) (hn : ds.length + 1 = n) : runM n N s ds0 = some (enc w) := by
  subst hp hd
  obtain ⟨e', h, _⟩ := f _ ((mt_map ds (.cons rfl (mt_un _))))
  unfold runM
  rw [List.getLast?_concat, List.dropLast_concat]
  dsimp only
  rw [if_pos (by rw [List.length_append]; exact hn)]
  unfold initM
  rw [h]
  rfl
theorem out_O {d : D} {p : Pt} {e : Env'} (m : Mt (.ex (.io d) :: p) e) : outO e = some d := by
  cases m with
  | cons h t => cases h; rfl
theorem bnd {α β : Type} {t : Option α} {k : α → Option β} {b : β} {M : Prop} (h : t.bind k = some b) (f : ∀ a, t = some a → k a = some b → M) : M := by
  obtain ⟨a, h1, h2⟩ := Option.bind_eq_some_iff.mp h
  exact f a h1 h2
theorem ifT {α : Type} {c : Bool} {a b : Option α} {r : α} (h : (if c = true then a else b) = some r) (q : c = true) : a = some r := (if_pos q).symm.trans h
theorem ifF {α : Type} {c : Bool} {a b : Option α} {r : α} (h : (if c = true then a else b) = some r) (q : c = false) : b = some r := (if_neg (by rw [q]; exact fun z => nomatch z)).symm.trans h
theorem ifS {α : Type} {c : Bool} {a b : Option α} {r : α} {M : Prop} (h : (if c = true then a else b) = some r) (ht : c = true → a = some r → M) (hf : c = false → b = some r → M) : M := by
  cases q : c with
  | true => exact ht q (ifT h q)
  | false => exact hf q (ifF h q)
end Mi.T

/-! Typed mirrors: encoders, operations. -/
namespace Mi.T
open PySem PySem.Spec PyProof.Rows L2 GxR
abbrev eInt : Int → D := .int
abbrev eStr : List Nat → D := .str
abbrev eBl : Bool → D := .bl
abbrev eNo : Unit → D := fun _ => .non
abbrev eAny : D → D := fun d => d
abbrev eScr : List Int → D := .scr
abbrev eTup {α : Type} (e : α → D) : List α → D := fun l => .tup (l.map e)
abbrev eLst {α : Type} (e : α → D) : List α → D := fun l => .lst (l.map e)
abbrev e1 {α : Type} (a : α → D) : α → D := fun q => .tup [a q]
abbrev e2 {α β : Type} (a : α → D) (b : β → D) : α × β → D := fun q => .tup [a q.1, b q.2]
abbrev e3 {α β γ : Type} (a : α → D) (b : β → D) (c : γ → D) : α × β × γ → D := fun q => .tup [a q.1, b q.2.1, c q.2.2]
abbrev e4 {α β γ δ : Type} (a : α → D) (b : β → D) (c : γ → D) (d : δ → D) : α × β × γ × δ → D := fun q => .tup [a q.1, b q.2.1, c q.2.2.1, d q.2.2.2]
abbrev h4 {α β γ δ : Type} (a : α → D) (b : β → D) (c : γ → D) (d : δ → D) : α × β × γ × δ → D := fun q => .lst [a q.1, b q.2.1, c q.2.2.1, d q.2.2.2]
def eOp {α : Type} (e : α → D) : Option α → D
  | none => .non
  | some x => e x
section
variable {α β γ δ σ τ ρ : Type} {e : α → D} {f g : β → D}
/-! ### equality -/
def EqE [BEq α] (e : α → D) : Prop := ∀ x y, (e x).eqv (e y) = (x == y)
theorem eqe_int : EqE eInt := fun x y => by show (D.int x).eqv (D.int y) = _; simp only [D.eqv]
theorem eqe_str : EqE eStr := fun x y => by show (D.str x).eqv (D.str y) = _; simp only [D.eqv]
theorem eqe_bl : EqE eBl := fun x y => by show (D.bl x).eqv (D.bl y) = _; simp only [D.eqv]
theorem eqe_no : EqE eNo := fun x y => by show D.non.eqv D.non = _; simp only [D.eqv]; rfl
theorem eqvL_map [BEq α] (h : EqE e) : ∀ l m : List α, D.eqvL (l.map e) (m.map e) = (l == m)
  | [], [] => by simp [D.eqvL]
  | [], _ :: _ => by simp [D.eqvL]
  | _ :: _, [] => by simp [D.eqvL]
  | x :: l, y :: m => by
    show (D.eqv (e x) (e y) && D.eqvL (l.map e) (m.map e)) = _
    rw [h x y, eqvL_map h l m]
    rfl
theorem eqe_tup [BEq α] (h : EqE e) : EqE (eTup e) := fun x y => by show (D.tup _).eqv (D.tup _) = _; simp only [D.eqv]; exact eqvL_map h x y
theorem eqe_lst [BEq α] (h : EqE e) : EqE (eLst e) := fun x y => by show (D.lst _).eqv (D.lst _) = _; simp only [D.eqv]; exact eqvL_map h x y
theorem eqe_2 [BEq α] [BEq β] {a : α → D} {b : β → D} (ha : EqE a) (hb : EqE b) : EqE (e2 a b) := fun x y => by
  show (D.tup _).eqv (D.tup _) = _
  simp only [D.eqv, D.eqvL, ha x.1 y.1, hb x.2 y.2, Bool.and_true]
  rfl
theorem eqe_3 [BEq α] [BEq β] [BEq γ] {a : α → D} {b : β → D} {c : γ → D} (ha : EqE a) (hb : EqE b) (hc : EqE c) : EqE (e3 a b c) := fun x y => by
  show (D.tup _).eqv (D.tup _) = _
  simp only [D.eqv, D.eqvL, ha x.1 y.1, hb x.2.1 y.2.1, hc x.2.2 y.2.2, Bool.and_true]
  rfl
theorem eqe_4 [BEq α] [BEq β] [BEq γ] [BEq δ] {a : α → D} {b : β → D} {c : γ → D} {d : δ → D} (ha : EqE a) (hb : EqE b) (hc : EqE c) (hd : EqE d) : EqE (e4 a b c d) := fun x y => by
  show (D.tup _).eqv (D.tup _) = _
  simp only [D.eqv, D.eqvL, ha x.1 y.1, hb x.2.1 y.2.1, hc x.2.2.1 y.2.2.1, hd x.2.2.2 y.2.2.2, Bool.and_true]
  rfl
theorem eqe_op [BEq α] (h : EqE e) (h1 : ∀ x, D.non.eqv (e x) = false) (h2 : ∀ x, (e x).eqv .non = false) : EqE (eOp e) := fun x y => by
  cases x with
  | none =>
    cases y with
    | none => show D.non.eqv D.non = _; simp only [D.eqv]; rfl
    | some y => exact h1 y
  | some x =>
    cases y with
    | none => exact h2 x
    | some y => exact h x y
theorem eq_sc [BEq α] (h : EqE e) {x y : α} (hs : scl (e x) (e y) = true) : eqF [e x, e y] = some (.bl (x == y)) := by
  unfold eqF
  simp only
  rw [if_pos (.inl hs), h x y]
theorem ne_sc [BEq α] (h : EqE e) {x y : α} (hs : scl (e x) (e y) = true) : neF [e x, e y] = some (.bl (!(x == y))) := by
  unfold neF
  simp only
  rw [if_pos (.inl hs), h x y]
def teq [BEq α] (e : α → D) (x y : α) : Option Bool := if (e x).shp 16 && (e y).shp 16 then some (x == y) else none
theorem teq_ok [BEq α] (h : EqE e) {x y : α} {b : Bool} (q : teq e x y = some b) : eqF [e x, e y] = some (.bl b) := by
  unfold teq at q
  split at q
  · rename_i hz
    cases q
    unfold eqF
    simp only
    rw [if_pos (.inr (by simpa using hz)), h x y]
  · cases q
theorem tne_ok [BEq α] (h : EqE e) {x y : α} {b : Bool} (q : teq e x y = some b) : neF [e x, e y] = some (.bl (!b)) := by
  unfold teq at q
  split at q
  · rename_i hz
    cases q
    unfold neF
    simp only
    rw [if_pos (.inr (by simpa using hz)), h x y]
  · cases q
/-! ### in -/
def tmem [BEq α] (e : α → D) (x : α) (l : List α) : Option Bool := if (e x).shp 16 && D.shpL 15 (l.map e) then some (l.any fun y => y == x) else none
theorem any_map [BEq α] (h : EqE e) (x : α) : ∀ l : List α, (l.map e).any (fun y => y.eqv (e x)) = l.any fun y => y == x
  | [] => rfl
  | y :: l => by rw [List.map_cons, List.any_cons, List.any_cons, any_map h x l, h y x]
theorem tmem_ok [BEq α] (h : EqE e) {x : α} {l : List α} {b : Bool} (n : Bool) (q : tmem e x l = some b) : memF n [e x, eLst e l] = some (.bl (n != b)) := by
  unfold tmem at q
  split at q
  · rename_i hz
    cases q
    obtain ⟨z1, z2⟩ := Bool.and_eq_true_iff.mp hz
    have z3 : (D.lst (l.map e)).shp 16 = true := by simp only [D.shp]; exact z2
    unfold memF
    split
    · rename_i q2; simp at q2
    · rename_i x' l' q2
      simp only [List.cons.injEq, D.lst.injEq, and_true] at q2
      obtain ⟨rfl, rfl⟩ := q2
      rw [if_pos ⟨z1, z3⟩, any_map h]
    · rename_i q2; simp at q2
    · rename_i h1 h2 h3
      exact absurd rfl (h2 _ _)
  · cases q
theorem tmemT_ok [BEq α] (h : EqE e) {x : α} {l : List α} (n : Bool) (hf : ∀ x, (e x).flt = true) : memF n [e x, eTup e l] = some (.bl (n != l.any fun y => y == x)) := by
  have z3 : (l.map e).all D.flt = true := by
    rw [List.all_eq_true]
    intro d hd
    obtain ⟨y, _, rfl⟩ := List.mem_map.mp hd
    exact hf y
  unfold memF
  split
  · rename_i q2; simp at q2
  · rename_i q2; simp at q2
  · rename_i x' l' q2
    simp only [List.cons.injEq, D.tup.injEq, and_true] at q2
    obtain ⟨rfl, rfl⟩ := q2
    rw [if_pos ⟨hf x, z3⟩, any_map h]
  · rename_i h1 h2 h3
    exact absurd rfl (h3 _ _)
def smem (x s : List Nat) : Option Bool := match x with
  | [c] => some (s.contains c)
  | _ => none
theorem smem_ok {x s : List Nat} {b : Bool} (n : Bool) (q : smem x s = some b) : memF n [.str x, .str s] = some (.bl (n != b)) := by
  unfold smem at q
  split at q
  · cases q; rfl
  · cases q
/-! ### sizes -/
def lenOk (l : List α) : Option (List α) := if l.length ≤ 16000000 then some l else none
theorem lenOk_eq {l m : List α} (h : lenOk l = some m) : l = m ∧ m.length ≤ 16000000 := by
  unfold lenOk at h
  split at h
  · rename_i hz; cases h; exact ⟨rfl, hz⟩
  · cases h
def slen (s : List Nat) : Option Int := if s.length ≤ 16000000 then some (s.length : Int) else none
theorem slen_ok {s : List Nat} {n : Int} (h : slen s = some n) : lenF [.str s] = some (.int n) := by
  unfold slen at h
  split at h
  · rename_i hz; cases h; exact if_pos hz
  · cases h
theorem len_lst {l : List α} : lenF [eLst e l] = some (.int (l.length : Int)) := by
  show some (D.int ((l.map e).length : Int)) = _
  rw [List.length_map]
theorem len_tup {l : List α} : lenF [eTup e l] = some (.int (l.length : Int)) := by
  show some (D.int ((l.map e).length : Int)) = _
  rw [List.length_map]
theorem tr_lst {l : List α} : truth (eLst e l) = some (!l.isEmpty) := by
  show some (!(l.map e).isEmpty) = _
  cases l <;> rfl
theorem tr_tup {l : List α} : truth (eTup e l) = some (!l.isEmpty) := by
  show some (!(l.map e).isEmpty) = _
  cases l <;> rfl
def tstr (s : List Nat) : Option Bool := if s.length ≤ 16000000 then some (!s.isEmpty) else none
theorem tstr_ok {s : List Nat} {b : Bool} (h : tstr s = some b) : truth (.str s) = some b := h
theorem not_of {d : D} {b : Bool} (h : truth d = some b) : notF [d] = some (.bl (!b)) := by
  show (truth d).map _ = _
  rw [h]
  rfl
theorem isN_op {x : Option α} (h : ∀ x, isNF [e x, .non] = some (.bl false)) : isNF [eOp e x, .non] = some (.bl x.isNone) := by
  cases x with
  | none => rfl
  | some x => exact h x
theorem notN_op {x : Option α} (h : ∀ x, notNF [e x, .non] = some (.bl true)) : notNF [eOp e x, .non] = some (.bl x.isSome) := by
  cases x with
  | none => rfl
  | some x => exact h x
/-! ### numbers -/
def iabs (a : Int) : Int := if a < 0 then -a else a
def imax (a b : Int) : Int := if b > a then b else a
def imin (a b : Int) : Int := if b < a then b else a
def imul (a b : Int) : Option Int := if (-(2 ^ 64) < a ∧ a < 2 ^ 64) ∨ (-(2 ^ 64) < b ∧ b < 2 ^ 64) then some (a * b) else none
theorem imul_ok {a b c : Int} (h : imul a b = some c) : mulF [.int a, .int b] = some (.int c) := by
  unfold imul at h
  split at h
  · rename_i hz; cases h; exact if_pos hz
  · cases h
theorem mul_l {a b : Int} (h : -(2 ^ 64) < a ∧ a < 2 ^ 64) : mulF [.int a, .int b] = some (.int (a * b)) := if_pos (.inl h)
theorem mul_r {a b : Int} (h : -(2 ^ 64) < b ∧ b < 2 ^ 64) : mulF [.int a, .int b] = some (.int (a * b)) := if_pos (.inr h)
def ifdiv (a b : Int) : Option Int := if b ≠ 0 ∧ b.natAbs < 1073741824 then some (a.fdiv b) else none
theorem ifdiv_ok {a b c : Int} (h : ifdiv a b = some c) : fdivF [.int a, .int b] = some (.int c) := by
  unfold ifdiv at h
  split at h
  · rename_i hz; cases h; exact if_pos hz
  · cases h
theorem fdiv_r {a b : Int} (h : b ≠ 0 ∧ b.natAbs < 1073741824) : fdivF [.int a, .int b] = some (.int (a.fdiv b)) := if_pos h
def ifmod (a b : Int) : Option Int := if b ≠ 0 then some (a.fmod b) else none
theorem ifmod_ok {a b c : Int} (h : ifmod a b = some c) : modF [.int a, .int b] = some (.int c) := by
  unfold ifmod at h
  split at h
  · rename_i hz; cases h; exact if_pos hz
  · cases h
theorem fmod_r {a b : Int} (h : b ≠ 0) : modF [.int a, .int b] = some (.int (a.fmod b)) := if_pos h
def ipow (a b : Int) : Option Int := if 0 ≤ b ∧ b ≤ 1000000 ∧ a.natAbs < 2 ^ 64 then some (a ^ b.toNat) else none
theorem ipow_ok {a b c : Int} (h : ipow a b = some c) : powF [.int a, .int b] = some (.int c) := by
  unfold ipow at h
  split at h
  · rename_i hz; cases h; exact if_pos hz
  · cases h
def igcd (a b : Int) : Int := ((Nat.gcd a.natAbs b.natAbs : Nat) : Int)
/-! ### joined, repeated -/
def scat (a b : List Nat) : Option (List Nat) := if a.length + b.length ≤ 16000000 then some (a ++ b) else none
theorem scat_ok {a b c : List Nat} (h : scat a b = some c) : addF [.str a, .str b] = some (.str c) := by
  unfold scat at h
  split at h
  · rename_i hz; cases h; exact if_pos hz
  · cases h
def lcat (a b : List α) : Option (List α) := if a.length + b.length ≤ 16000000 then some (a ++ b) else none
theorem lcat_ok {a b c : List α} (h : lcat a b = some c) : addF [eLst e a, eLst e b] = some (eLst e c) := by
  unfold lcat at h
  split at h
  · rename_i hz
    cases h
    show (if (a.map e).length + (b.map e).length ≤ 16000000 then some (D.lst (a.map e ++ b.map e)) else none) = _
    rw [List.length_map, List.length_map, if_pos hz, ← List.map_append]
  · cases h
theorem lcatL_ok {a b c : List α} (h : lcat a b = some c) : addLF [eLst e a, eLst e b] = some (eLst e c) := by
  unfold lcat at h
  split at h
  · rename_i hz
    cases h
    show (if (a.map e).length + (b.map e).length ≤ 16000000 then some (D.lst (a.map e ++ b.map e)) else none) = _
    rw [List.length_map, List.length_map, if_pos hz, ← List.map_append]
  · cases h
def tcat (a b : List α) : Option (List α) := if a.length + b.length ≤ 16000000 then some (a ++ b) else none
theorem tcat_ok {a b c : List α} (h : tcat a b = some c) : addF [eTup e a, eTup e b] = some (eTup e c) := by
  unfold tcat at h
  split at h
  · rename_i hz
    cases h
    show (if (a.map e).length + (b.map e).length ≤ 16000000 then some (D.tup (a.map e ++ b.map e)) else none) = _
    rw [List.length_map, List.length_map, if_pos hz, ← List.map_append]
  · cases h
def rep (s : List α) (n : Int) : Option (List α) := if n ≤ 16000000 ∧ -16000000 ≤ n ∧ s.length * n.toNat ≤ 16000000 then some (List.replicate n.toNat s).flatten else none
theorem rep_ok {s t : List Nat} {n : Int} (h : rep s n = some t) : mulF [.str s, .int n] = some (.str t) := by
  unfold rep at h
  split at h
  · rename_i hz; cases h; exact if_pos hz
  · cases h
theorem flat_map (n : Nat) (l : List α) : (List.replicate n (l.map e)).flatten = (List.replicate n l).flatten.map e := by
  induction n with
  | zero => rfl
  | succ n ih => rw [List.replicate_succ, List.replicate_succ, List.flatten_cons, List.flatten_cons, List.map_append, ih]
theorem lrep_ok {l m : List α} {n : Int} (h : rep l n = some m) : mulF [eLst e l, .int n] = some (eLst e m) := by
  unfold rep at h
  split at h
  · rename_i hz
    cases h
    show (if n ≤ 16000000 ∧ -16000000 ≤ n ∧ (l.map e).length * n.toNat ≤ 16000000 then some (D.lst (List.replicate n.toNat (l.map e)).flatten) else none) = _
    rw [List.length_map, if_pos hz, flat_map]
  · cases h
theorem lrepL_ok {l m : List α} {n : Int} (h : rep l n = some m) : mulLF [eLst e l, .int n] = some (eLst e m) := by
  unfold rep at h
  split at h
  · rename_i hz
    cases h
    show (if n ≤ 16000000 ∧ -16000000 ≤ n ∧ (l.map e).length * n.toNat ≤ 16000000 then some (D.lst (List.replicate n.toNat (l.map e)).flatten) else none) = _
    rw [List.length_map, if_pos hz, flat_map]
  · cases h
/-! ### places, slices -/
theorem atI_map (l : List α) (i : Int) : atI (l.map e) i = (atI l i).map e := by
  unfold atI
  rw [List.length_map]
  cases ixN l.length i with
  | none => rfl
  | some j => simp
theorem ix_lst {l : List α} {i : Int} {x : α} (h : atI l i = some x) : ixF [eLst e l, .int i] = some (e x) := by
  show atI (l.map e) i = _
  rw [atI_map, h]
  rfl
theorem ix_tup {l : List α} {i : Int} {x : α} (h : atI l i = some x) : ixF [eTup e l, .int i] = some (e x) := by
  show atI (l.map e) i = _
  rw [atI_map, h]
  rfl
theorem ix_scr {l : List Int} {i x : Int} (h : atI l i = some x) : ixF [.scr l, .int i] = some (.int x) := by
  show (atI l i).map D.int = _
  rw [h]
  rfl
def sat (s : List Nat) (i : Int) : Option (List Nat) := if s.length ≤ 16000000 then (atI s i).map fun c => [c] else none
theorem sat_ok {s t : List Nat} {i : Int} (h : sat s i = some t) : ixF [.str s, .int i] = some (.str t) := by
  unfold sat at h
  split at h
  · rename_i hz
    show (if s.length ≤ 16000000 then (atI s i).map fun c => D.str [c] else none) = _
    rw [if_pos hz]
    cases q : atI s i with
    | none => rw [q] at h; cases h
    | some c => rw [q] at h; cases h; rfl
  · cases h
def tset (l : List α) (i : Int) (v : α) : Option (List α) := (ixN l.length i).map fun j => l.set j v
theorem tset_ok {l m : List α} {i : Int} {v : α} (h : tset l i v = some m) : setL (eLst e l) (.int i) (e v) = some (eLst e m) := by
  unfold tset at h
  show (match ixN (l.map e).length i with
    | some j => some (D.lst ((l.map e).set j (e v)))
    | none => none) = _
  rw [List.length_map]
  cases q : ixN l.length i with
  | none => rw [q] at h; cases h
  | some j => rw [q] at h; cases h; simp [List.map_set]
theorem cut_map (l : List α) (lo hi : Option Int) : cutL (l.map e) lo hi = (cutL l lo hi).map e := by
  unfold cutL
  rw [List.length_map, List.map_take, List.map_drop]
def scut (s : List Nat) (lo hi : Option Int) : Option (List Nat) := if s.length ≤ 16000000 then some (cutL s lo hi) else none
theorem scut_ok {s t : List Nat} {lo hi : Option Int} (h : scut s lo hi = some t) : slF (.str s) lo hi = some (.str t) := by
  unfold scut at h
  split at h
  · rename_i hz; cases h; exact if_pos hz
  · cases h
theorem lcut_ok {l : List α} {lo hi : Option Int} : slF (eLst e l) lo hi = some (eLst e (cutL l lo hi)) := by
  show some (D.lst (cutL (l.map e) lo hi)) = _
  rw [cut_map]
theorem lcutL_ok {l : List α} {lo hi : Option Int} : slLF (eLst e l) lo hi = some (eLst e (cutL l lo hi)) := by
  show some (D.lst (cutL (l.map e) lo hi)) = _
  rw [cut_map]
def tcut (l : List α) (lo hi : Option Int) : Option (List α) := some (cutL l lo hi)
theorem tcut_ok {l m : List α} {lo hi : Option Int} (h : tcut l lo hi = some m) : slF (eTup e l) lo hi = some (eTup e m) := by
  cases h
  show some (D.tup (cutL (l.map e) lo hi)) = _
  rw [cut_map]
/-! ### texts -/
theorem strsOf_map' : ∀ l : List (List Nat), strsOf (l.map eStr) = some l
  | [] => rfl
  | s :: l => by
    show (strsOf (l.map eStr)).map _ = _
    rw [strsOf_map' l]
    rfl
def sjoin (sep : List Nat) (l : List (List Nat)) : Option (List Nat) := if (l.map List.length).sum + l.length * sep.length ≤ 16000000 then some (joinL' sep l) else none
theorem sjoin_ok {sep t : List Nat} {l : List (List Nat)} (h : sjoin sep l = some t) : joinF [.str sep, eLst eStr l] = some (.str t) := by
  unfold sjoin at h
  split at h
  · rename_i hz
    cases h
    show (match strsOf (l.map eStr) with
    | some ss => if (ss.map List.length).sum + ss.length * sep.length ≤ 16000000 then some (D.str (joinL' sep ss)) else none
    | none => none) = _
    rw [strsOf_map']
    exact if_pos hz
  · cases h
theorem sjoinT_ok {sep t : List Nat} {l : List (List Nat)} (h : sjoin sep l = some t) : joinF [.str sep, eTup eStr l] = some (.str t) := by
  unfold sjoin at h
  split at h
  · rename_i hz
    cases h
    show (match strsOf (l.map eStr) with
    | some ss => if (ss.map List.length).sum + ss.length * sep.length ≤ 16000000 then some (D.str (joinL' sep ss)) else none
    | none => none) = _
    rw [strsOf_map']
    exact if_pos hz
  · cases h
def srfind (s x : List Nat) : Option Int := match x with
  | [c] => some (rfindL s c)
  | _ => none
theorem srfind_ok {s x : List Nat} {n : Int} (h : srfind s x = some n) : rfindF [.str s, .str x] = some (.int n) := by
  unfold srfind at h
  split at h
  · cases h; rfl
  · cases h
def sfind (s x : List Nat) : Option Int := match x with
  | [c] => some (findL s c)
  | _ => none
theorem sfind_ok {s x : List Nat} {n : Int} (h : sfind s x = some n) : findF [.str s, .str x] = some (.int n) := by
  unfold sfind at h
  split at h
  · cases h; rfl
  · cases h
def scount (s x : List Nat) : Option Int := match x with
  | [c] => some (s.count c : Nat)
  | _ => none
theorem scount_ok {s x : List Nat} {n : Int} (h : scount s x = some n) : countF [.str s, .str x] = some (.int n) := by
  unfold scount at h
  split at h
  · cases h; rfl
  · cases h
def sends (s x : List Nat) : Option Bool := match x with
  | c :: t => some (endsL s (c :: t))
  | _ => none
theorem sends_ok {s x : List Nat} {n : Bool} (h : sends s x = some n) : endsF [.str s, .str x] = some (.bl n) := by
  unfold sends at h
  split at h
  · cases h; rfl
  · cases h
/-! ### many numbers -/
theorem intsOf_map' : ∀ l : List Int, intsOf (l.map eInt) = some l
  | [] => rfl
  | s :: l => by
    show (intsOf (l.map eInt)).map _ = _
    rw [intsOf_map' l]
    rfl
def tnum (f : Int → List Int → Int) (l : List Int) : Option Int := match l with
  | n :: ns => some (f n ns)
  | [] => none
theorem tnumL_ok {f : Int → List Int → Int} {l : List Int} {n : Int} (h : tnum f l = some n) : numsF f [eLst eInt l] = some (.int n) := by
  show (match intsOf (l.map eInt) with
    | some (n :: ns) => some (D.int (f n ns))
    | _ => none) = _
  rw [intsOf_map']
  unfold tnum at h
  split at h
  · cases h; rfl
  · cases h
theorem tnumT_ok {f : Int → List Int → Int} {l : List Int} {n : Int} (h : tnum f l = some n) : numsF f [eTup eInt l] = some (.int n) := by
  show (match intsOf (l.map eInt) with
    | some (n :: ns) => some (D.int (f n ns))
    | _ => none) = _
  rw [intsOf_map']
  unfold tnum at h
  split at h
  · cases h; rfl
  · cases h
theorem sumL_ok {l : List Int} : sumIF [eLst eInt l] = some (.int l.sum) := by
  show (intsOf (l.map eInt)).map _ = _
  rw [intsOf_map']
  rfl
theorem sumT_ok {l : List Int} : sumIF [eTup eInt l] = some (.int l.sum) := by
  show (intsOf (l.map eInt)).map _ = _
  rw [intsOf_map']
  rfl
/-! ### sorted -/
def srtOk : List D → Bool
  | [] => true
  | x :: r => srtK x && x.same x && r.all (fun y => x.same y) && (x :: r).all (fun y => y.shp 16)
def ins (le : α → α → Bool) (x : α) : List α → List α
  | [] => [x]
  | y :: l => if le x y then x :: y :: l else y :: ins le x l
def isort (le : α → α → Bool) : List α → List α
  | [] => []
  | x :: l => ins le x (isort le l)
theorem ins_mid {le : α → α → Bool} {x : α} : ∀ {l m : List α}, (∀ b ∈ l, (!le x b) = true) → (∀ b ∈ m, le x b = true) → ins le x (l ++ m) = l ++ x :: m
  | [], [], _, _ => rfl
  | [], b :: m, _, h => by
    show (if le x b then _ else _) = _
    rw [if_pos (h b List.mem_cons_self)]
    rfl
  | a :: l, m, h, k => by
    show (if le x a then _ else _) = _
    have := h a List.mem_cons_self
    rw [if_neg (by simpa using this)]
    exact congrArg (a :: ·) (ins_mid (l := l) (m := m) (fun b hb => h b (List.mem_cons_of_mem _ hb)) k)
theorem isort_merge {le : α → α → Bool} (trans : ∀ a b c, le a b = true → le b c = true → le a c = true) (total : ∀ a b, (le a b || le b a) = true) : ∀ l : List α, isort le l = l.mergeSort le
  | [] => by simp [isort]
  | x :: l => by
    obtain ⟨l1, l2, h1, h2, h3⟩ := List.mergeSort_cons trans total x l
    have hs := List.pairwise_mergeSort trans total (x :: l)
    rw [h1] at hs
    show ins le x (isort le l) = _
    rw [isort_merge trans total l, h2, h1]
    refine ins_mid h3 fun b hb => ?_
    have := (List.pairwise_append.mp hs).2.1
    exact List.rel_of_pairwise_cons this hb
theorem dle_merge (e : α → D) (l : List α) : isort (fun a b => dle (e a) (e b)) l = l.mergeSort fun a b => dle (e a) (e b) := by
  have h := PySem.W.sortLe_total (PyProof.Rows.listOrd PyProof.Rows.itemOrd) false fun (a : α) => PySem.W.keyToks (e a).py
  exact isort_merge (le := fun a b => dle (e a) (e b)) (fun a b c => h.trans a b c) (fun a b => by
    have : dle (e a) (e b) = true ∨ dle (e b) (e a) = true := h.total a b
    simpa using this) l
def tsort (e : α → D) (l : List α) : Option (List α) := if srtOk (l.map e) then some (isort (fun a b => dle (e a) (e b)) l) else none
theorem tsort_merge {l : List α} (h : srtOk (l.map e) = true) : tsort e l = some (l.mergeSort fun a b => dle (e a) (e b)) := by
  unfold tsort
  rw [if_pos h, dle_merge]
theorem tsort_sortL {l m : List α} (h : tsort e l = some m) : (sortL (l.map e)).map D.lst = some (eLst e m) := by
  unfold tsort at h
  split at h
  · rename_i hz
    cases h
    have : sortL (l.map e) = some ((l.map e).mergeSort dle) := by
      unfold srtOk at hz
      split at hz
      · rename_i q
        rw [q, sortL]
        simp
      · rename_i x r q
        rw [q, sortL]
        simp only [Bool.and_eq_true] at hz
        rw [if_pos ⟨hz.1.1.1, hz.1.1.2, hz.1.2, hz.2⟩]
    rw [this, ← List.map_mergeSort (r := fun a b => dle (e a) (e b)) (fun a _ b _ => rfl), dle_merge]
    rfl
  · cases h
theorem tsort_ok {l m : List α} (h : tsort e l = some m) : sortF [eLst e l] = some (eLst e m) := tsort_sortL h
theorem tsortT_ok {l m : List α} (h : tsort e l = some m) : sortF [eTup e l] = some (eLst e m) := tsort_sortL h
/-! ### what is walked -/
def chars (s : List Nat) : List (List Nat) := s.map fun c => [c]
theorem it_str {s : List Nat} : itemsF [.str s] = some ((chars s).map eStr) := by
  show some _ = _
  unfold chars
  rw [List.map_map]
  rfl
theorem it_lst {l : List α} : itemsF [eLst e l] = some (l.map e) := rfl
theorem it_tup {l : List α} : itemsF [eTup e l] = some (l.map e) := rfl
def irange (a : Int) (n : Nat) : List Int := (List.range n).map fun (i : Nat) => a + (i : Int)
theorem irange_map (a : Int) (n : Nat) : rangeL a n 1 = (irange a n).map eInt := by
  unfold rangeL irange
  rw [List.map_map]
  refine List.map_congr_left fun i _ => ?_
  show D.int _ = D.int _
  rw [Int.mul_one]
def trange1 (n : Int) : Option (List Int) := if n < 4611686018427387904 ∧ -4611686018427387904 ≤ n then some (irange 0 n.toNat) else none
theorem trange1_ok {n : Int} {l : List Int} (h : trange1 n = some l) : range1F [.int n] = some (l.map eInt) := by
  unfold trange1 at h
  split at h
  · rename_i hz
    cases h
    show (if _ then _ else _) = _
    rw [if_pos hz, irange_map]
  · cases h
def trange2 (a b : Int) : Option (List Int) := if (a < 4611686018427387904 ∧ -4611686018427387904 ≤ a) ∧ (b < 4611686018427387904 ∧ -4611686018427387904 ≤ b) then some (irange a (b - a).toNat) else none
theorem trange2_ok {a b : Int} {l : List Int} (h : trange2 a b = some l) : range2F [.int a, .int b] = some (l.map eInt) := by
  unfold trange2 at h
  split at h
  · rename_i hz
    cases h
    show (if _ then _ else _) = _
    rw [if_pos hz, irange_map]
  · cases h
def irangeD (a : Int) (n : Nat) : List Int := (List.range n).map fun (i : Nat) => a - (i : Int)
def trangeD (a b : Int) : Option (List Int) := if (a < 4611686018427387904 ∧ -4611686018427387904 ≤ a) ∧ (b < 4611686018427387904 ∧ -4611686018427387904 ≤ b) then some (irangeD a (a - b).toNat) else none
theorem trangeD_ok {a b : Int} {l : List Int} (h : trangeD a b = some l) : rangeDF [.int a, .int b, .int (-1)] = some (l.map eInt) := by
  unfold trangeD at h
  split at h
  · rename_i hz
    cases h
    show (if _ then _ else _) = _
    rw [if_pos ⟨rfl, hz⟩]
    unfold rangeL irangeD
    rw [List.map_map]
    refine congrArg some (List.map_congr_left fun i _ => ?_)
    show D.int _ = D.int _
    refine congrArg D.int ?_
    show a + (i : Int) * (-1) = a - (i : Int)
    omega
  · cases h
def enumI (i : Int) : List α → List (Int × α)
  | [] => []
  | x :: l => (i, x) :: enumI (i + 1) l
theorem numL_map : ∀ (l : List α) (i : Nat), numL i (l.map e) = (enumI (i : Int) l).map (e2 eInt e)
  | [], _ => rfl
  | x :: l, i => by
    show _ :: numL (i + 1) (l.map e) = _
    rw [numL_map l (i + 1)]
    rfl
theorem en_lst {l : List α} : enumF [eLst e l] = some ((enumI 0 l).map (e2 eInt e)) := by
  show some (numL 0 (l.map e)) = _
  rw [numL_map]
  rfl
theorem en_tup {l : List α} : enumF [eTup e l] = some ((enumI 0 l).map (e2 eInt e)) := by
  show some (numL 0 (l.map e)) = _
  rw [numL_map]
  rfl
theorem en_str {s : List Nat} : enumF [.str s] = some ((enumI 0 (chars s)).map (e2 eInt eStr)) := by
  show some (numL 0 (s.map fun c => D.str [c])) = _
  have : (s.map fun c => D.str [c]) = (chars s).map eStr := by unfold chars; rw [List.map_map]; rfl
  rw [this, numL_map]
  rfl
theorem zipL_map {e' : β → D} : ∀ (l : List α) (m : List β), zipL (l.map e) (m.map e') = (l.zip m).map (e2 e e')
  | [], _ => by simp [zipL]
  | _ :: _, [] => by simp [zipL]
  | x :: l, y :: m => by
    show _ :: zipL (l.map e) (m.map e') = _
    rw [zipL_map l m]
    rfl
theorem zp {e' : β → D} {d1 d2 : D} {l : List α} {m : List β} (h1 : srcD d1 = some (l.map e)) (h2 : srcD d2 = some (m.map e')) : zip2F [d1, d2] = some ((l.zip m).map (e2 e e')) := by
  unfold zip2F
  simp only [h1, h2]
  rw [zipL_map]
theorem src_lst {l : List α} : srcD (eLst e l) = some (l.map e) := rfl
theorem src_tup {l : List α} : srcD (eTup e l) = some (l.map e) := rfl
theorem src_str {s : List Nat} : srcD (.str s) = some ((chars s).map eStr) := by
  show some _ = _
  unfold chars
  rw [List.map_map]
  rfl
/-! ### displays with stars -/
theorem dsp_l {l m : List α} {ds : List D} (h : lenOk l = some m) (hd : ds = l.map e) : lstS ds = some (eLst e m) := by
  obtain ⟨rfl, h2⟩ := lenOk_eq h
  unfold lstS
  rw [hd, if_pos (by rw [List.length_map]; exact h2)]
theorem dsp_t {l m : List α} {ds : List D} (h : lenOk l = some m) (hd : ds = l.map e) : tupS ds = some (eTup e m) := by
  obtain ⟨rfl, h2⟩ := lenOk_eq h
  unfold tupS
  rw [hd, if_pos (by rw [List.length_map]; exact h2)]
end
/-! ### comprehensions -/
section
variable {ko : Bool} {α β γ δ σ τ ρ : Type} {I : β → D} {O : τ → D} {x : Ex} {xs : List Ex} {p p1 p2 pw : Pt} {g : List D → Option (List D)} {vs : List Nat} {tg : Tg} {cs : List Ex} {l : List β}
def tmap (f : β → τ) (l : List β) : Option (List τ) := lenOk (l.map f)
def tfil (c : β → Bool) (f : β → τ) (l : List β) : Option (List τ) := lenOk ((l.filter c).map f)
def cmp (t : β → Option (List τ)) : List β → Option (List τ)
  | [] => some []
  | b :: l => (t b).bind fun ys => (cmp t l).bind fun zs => some (ys ++ zs)
def tcmp (t : β → Option (List τ)) (l : List β) : Option (List τ) := (cmp t l).bind lenOk
def tcmpS (t : β → σ → Option (List τ × σ)) (l : List β) (s : σ) : Option (List τ × σ) := (cmpL t l s).bind fun q => (lenOk q.1).bind fun ys => some (ys, q.2)
theorem cmpL_cmp (t : β → Option (List τ)) : ∀ (l : List β) (ys : List τ), cmp t l = some ys → cmpL (fun b (_ : Unit) => (t b).bind fun ys => some (ys, ())) l () = some (ys, ())
  | [], ys, h => by cases h; rfl
  | b :: l, ys, h => by
    unfold cmp at h
    obtain ⟨y1, h1, h⟩ := Option.bind_eq_some_iff.mp h
    obtain ⟨y2, h2, h⟩ := Option.bind_eq_some_iff.mp h
    cases h
    unfold cmpL
    rw [h1]
    show (cmpL _ l ()).bind _ = _
    rw [cmpL_cmp t l y2 h2]
    rfl
theorem ev_lcU {t : β → Option (List τ)} {ys : List τ} (hi : It g xs p (l.map I) p1) (hs : softP p1 vs = true) (hw : wipeP p1 vs = pw)
    (turn : ∀ b ys, t b = some ys → Turn tg vs cs x pw (I b) (ys.map O) pw) (h : tcmp t l = some ys) (hb : backP p1 pw vs = p2) : Ev (.lc g xs vs tg cs x) p (.pers (eLst O ys)) p2 := by
  obtain ⟨zs, h1, h2⟩ := Option.bind_eq_some_iff.mp h
  obtain ⟨rfl, h3⟩ := lenOk_eq h2
  subst hb
  exact ev_lc (fun _ : Unit => pw) (s := ()) hi hs hw (fun b s ys s' q => by
    obtain ⟨y1, q1, q2⟩ := Option.bind_eq_some_iff.mp q
    cases q2
    exact turn b _ q1) (cmpL_cmp t l _ h1) h3
theorem cmp_map (f : β → τ) : ∀ l : List β, cmp (fun b => some [f b]) l = some (l.map f)
  | [] => rfl
  | b :: l => by
    show (cmp _ l).bind _ = _
    rw [cmp_map f l]
    rfl
theorem cmp_fil (c : β → Bool) (f : β → τ) : ∀ l : List β, cmp (fun b => some (if c b = true then [f b] else [])) l = some ((l.filter c).map f)
  | [] => rfl
  | b :: l => by
    show (cmp _ l).bind _ = _
    rw [cmp_fil c f l, List.filter_cons]
    show some _ = some _
    cases c b <;> rfl
theorem ev_lcM {f : β → τ} {ys : List τ} (hi : It g xs p (l.map I) p1) (hs : softP p1 vs = true) (hw : wipeP p1 vs = pw)
    (turn : ∀ b, Turn tg vs cs x pw (I b) [O (f b)] pw) (h : tmap f l = some ys) (hb : backP p1 pw vs = p2) : Ev (.lc g xs vs tg cs x) p (.pers (eLst O ys)) p2 :=
  ev_lcU (t := fun b => some [f b]) hi hs hw (fun b ys q => by cases q; exact turn b) (by unfold tcmp; rw [cmp_map]; exact h) hb
theorem ev_lcF {c : β → Bool} {f : β → τ} {ys : List τ} (hi : It g xs p (l.map I) p1) (hs : softP p1 vs = true) (hw : wipeP p1 vs = pw)
    (tT : ∀ b, c b = true → Turn tg vs cs x pw (I b) [O (f b)] pw) (tF : ∀ b, c b = false → Turn tg vs cs x pw (I b) [] pw) (h : tfil c f l = some ys) (hb : backP p1 pw vs = p2) : Ev (.lc g xs vs tg cs x) p (.pers (eLst O ys)) p2 :=
  ev_lcU (t := fun b => some (if c b = true then [f b] else [])) hi hs hw (fun b ys q => by
    cases q
    cases k : c b with
    | true => exact tT b k
    | false => exact tF b k) (by unfold tcmp; rw [cmp_fil]; exact h) hb
theorem ev_lcS (P : σ → Pt) {t : β → σ → Option (List τ × σ)} {ys : List τ} {s s' : σ} (hi : It g xs p (l.map I) p1) (hs : softP p1 vs = true) (hw : wipeP p1 vs = P s)
    (turn : ∀ b s ys s', t b s = some (ys, s') → Turn tg vs cs x (P s) (I b) (ys.map O) (P s')) (h : tcmpS t l s = some (ys, s')) (hb : backP p1 (P s') vs = p2) : Ev (.lc g xs vs tg cs x) p (.pers (eLst O ys)) p2 := by
  obtain ⟨q, h1, h2⟩ := Option.bind_eq_some_iff.mp h
  obtain ⟨zs, h3, h4⟩ := Option.bind_eq_some_iff.mp h2
  obtain ⟨rfl, h5⟩ := lenOk_eq h3
  cases h4
  subst hb
  exact ev_lc P hi hs hw turn h1 h5
theorem turnK {tg : Tg} {vs : List Nat} {cs : List Ex} {d d1 : D} {p p1 p2 p3 p4 p5 : Pt} {r : Rv} (hb : tg.bp d p = some p1) (hc : Evt cs p1 true p2) (he : Ev x p2 r p3) (hs : sp p3 r = some (d1, p4)) (hw : wipeP p4 vs = p5) : Turn tg vs cs x p d [d1] p5 := hw ▸ turn_keep hb hc he hs
theorem turnD {tg : Tg} {vs : List Nat} {cs : List Ex} {d : D} {p p1 p2 p5 : Pt} (hb : tg.bp d p = some p1) (hc : Evt cs p1 false p2) (hw : wipeP p2 vs = p5) : Turn tg vs cs x p d [] p5 := hw ▸ turn_drop hb hc
/-- two generators: for each item the answers of the inner one -/
theorem ev_lc2U {t : β → Option (List τ)} {g2 : List D → Option (List D)} {vs1 : List Nat} {tg2 : Tg} {cs1 as2 : List Ex} {ys : List τ} (hi : It g xs p (l.map I) p1) (hs : softP p1 vs = true) (hv : vs1.all (fun i => vs.contains i) = true) (hw : wipeP p1 vs = pw)
    (turn : ∀ b ys, t b = some ys → Turn2 tg vs vs1 tg2 cs1 g2 as2 cs x pw (I b) (ys.map O) pw) (h : tcmp t l = some ys) (hb : backP p1 pw vs = p2) : Ev (.lc2 g xs vs tg cs1 g2 as2 vs1 tg2 cs x) p (.pers (eLst O ys)) p2 := by
  obtain ⟨zs, h1, h2⟩ := Option.bind_eq_some_iff.mp h
  obtain ⟨rfl, h3⟩ := lenOk_eq h2
  subst hb
  exact ev_lc2 (fun _ : Unit => pw) (s := ()) hi hs hv hw (fun b s ys s' q => by
    obtain ⟨y1, q1, q2⟩ := Option.bind_eq_some_iff.mp q
    cases q2
    exact turn b _ q1) (cmpL_cmp t l _ h1) h3
theorem turn2K {α : Type} {I : α → D} {t : α → Option (List τ)} {tg tg2 : Tg} {vs vs1 : List Nat} {cs1 cs : List Ex} {g2 : List D → Option (List D)} {d : D} {p p1 p2 p3 pw p5 : Pt} {l : List α} {ys : List τ} (hb : tg.bp d p = some p1) (hc : Evt cs1 p1 true p2) (hi : It g2 xs p2 (l.map I) p3) (hs : softP p3 vs1 = true) (hw : wipeP p3 vs1 = pw)
    (turn : ∀ b ys, t b = some ys → Turn tg2 vs1 cs x pw (I b) (ys.map O) pw) (h : cmp t l = some ys) (he : wipeP pw vs = p5) : Turn2 tg vs vs1 tg2 cs1 g2 xs cs x p d (ys.map O) p5 := he ▸
  turn2_keep (fun _ : Unit => pw) (s := ()) hb hc hi hs hw (fun b s ys s' q => by
    obtain ⟨y1, q1, q2⟩ := Option.bind_eq_some_iff.mp q
    cases q2
    exact turn b _ q1) (cmpL_cmp t l _ h)
theorem turn2D {tg tg2 : Tg} {vs vs1 : List Nat} {cs1 cs : List Ex} {g2 : List D → Option (List D)} {d : D} {p p1 p2 p5 : Pt} (hb : tg.bp d p = some p1) (hc : Evt cs1 p1 false p2) (hw : wipeP p2 vs = p5) : Turn2 tg vs vs1 tg2 cs1 g2 xs cs x p d [] p5 := hw ▸ turn2_drop hb hc
theorem ev_eq {α : Type} {enc : α → D} {v w : α} (h : Ev x p (.pers (enc v)) p1) (q : some v = some w) : Ev x p (.pers (enc w)) p1 := by
  have e := Option.some.inj q
  subst e
  exact h
theorem ev_iteP {α : Type} {enc : α → D} {u v : α} {y z : Ex} {c : Bool} {r : Rv} {d : D} (h : Ev x p r p1) (hg : gp p1 r = some d) (ht : truth d = some c) (ha : c = true → Ev y p1 (.pers (enc u)) p2) (hb : c = false → Ev z p1 (.pers (enc v)) p2) : Ev (.ite x y z) p (.pers (enc (if c = true then u else v))) p2 := by
  refine ev_ite h hg ht (fun k => ?_) fun k => ?_
  · rw [if_pos k]; exact ha k
  · rw [if_neg (by rw [k]; exact fun z => nomatch z)]; exact hb k
theorem ev_andM {y : Ex} {a v : Bool} {tb : Option Bool} (h : Ev x p (.pers (.bl a)) p1) (q : (if a = true then tb else some false) = some v) (hb : a = true → tb = some v → Ev y p1 (.pers (.bl v)) p1) : Ev (.and_ x y) p (.pers (.bl v)) p1 := by
  cases a with
  | true => exact ev_andT h rfl rfl (hb rfl q)
  | false => cases q; exact ev_andF h rfl rfl
theorem ev_orM {y : Ex} {a v : Bool} {tb : Option Bool} (h : Ev x p (.pers (.bl a)) p1) (q : (if a = true then some true else tb) = some v) (hb : a = false → tb = some v → Ev y p1 (.pers (.bl v)) p1) : Ev (.or_ x y) p (.pers (.bl v)) p1 := by
  cases a with
  | true => cases q; exact ev_orT h rfl rfl
  | false => exact ev_orF h rfl rfl (hb rfl q)
theorem fin_retE {ρ σ : Type} {P : σ → Pt} {enc : ρ → D} {q : ρ → Env' → Prop} {r : Rv} {d : D} {v w : ρ} (h : Ev x p r p1) (hs : sp p1 r = some (d, p2)) (hd : d = enc v) (k : some v = some w) (hq : ∀ e, Mt p2 e → q v e) : Fin false (.ret x) p (.ret w : Ctl ρ σ) P enc q := by
  have e := Option.some.inj k
  subst e
  exact fin_ret h hs hd hq
theorem fin_nxE {ρ σ : Type} {s : S} {P : σ → Pt} {enc : ρ → D} {q : ρ → Env' → Prop} (mk : List Nat) {v st : σ} (h : Nx s p p1) (hm : maskOk mk p1 = true) (he : maskP mk p1 = P v) (k : some v = some st) : Fin ko s p (.nxt st) P enc q := by
  have e := Option.some.inj k
  subst e
  exact fin_nx mk h hm he
theorem fin_to {ρ σ : Type} {s : S} {p p' : Pt} {c : Ctl ρ σ} {P : σ → Pt} {enc : ρ → D} {q : ρ → Env' → Prop} (h : p = p') (f : Fin ko s p' c P enc q) : Fin ko s p c P enc q := h ▸ f
end
end Mi.T

/-! Typed mirrors: what the printed proofs lean on. -/
namespace Mi.T
open PySem PySem.Spec PyProof.Rows L2 GxR
def tapp {α : Type} (l : List α) (x : α) : Option (List α) := if l.length < 16000000 then some (l ++ [x]) else none
section
variable {ko : Bool} {α ρ σ : Type} {e : α → D} {a b s : S} {c : Ctl ρ σ} {P : σ → Pt} {enc : ρ → D} {q : ρ → Env' → Prop} {x : Ex} {p p1 p2 : Pt} {r : Rv} {i : Nat}
theorem nx_appT {l l' : List α} {v : α} (ho : lstP p i = true) (h : Ev x p r p1) (hs : sp p1 r = some (e v, p2)) (hi : p2[i]? = some (.ex (.ow (eLst e l)))) (k : tapp l v = some l') : Nx (.app i x) p (p2.set i (.ex (.ow (eLst e l')))) := by
  unfold tapp at k
  split at k
  · rename_i hz
    cases k
    have := nx_app (i := i) ho h hs hi (by rw [List.length_map]; exact hz)
    rw [show D.lst (l.map e ++ [e v]) = eLst e (l ++ [v]) from by simp] at this
    exact this
  · cases k
theorem nx_appIT {l l' : List α} {v : α} (ho : lstP p i = true) (h : Ev x p r p1) (hs : sp p1 r = some (e v, p2)) (hi : p2[i]? = some (.ex (.io (eLst e l)))) (k : tapp l v = some l') : Nx (.app i x) p (p2.set i (.ex (.io (eLst e l')))) := by
  unfold tapp at k
  split at k
  · rename_i hz
    cases k
    have := nx_appI (i := i) ho h hs hi (by rw [List.length_map]; exact hz)
    rw [show D.lst (l.map e ++ [e v]) = eLst e (l ++ [v]) from by simp] at this
    exact this
  · cases k
def ctl {α : Type} (c : Ctl ρ σ) (f : σ → Option α) (g : ρ → Option α) : Option α := match c with
  | .nxt s => f s
  | .brk _ => none
  | .ret r => g r
theorem fin_seqJ {σ' : Type} {st : σ'} {P' : σ' → Pt} (h : Fin ko a p (.nxt st : Ctl ρ σ') P' enc q) (f : Fin ko b (P' st) c P enc q) : Fin ko (.seq a b) p c P enc q := fin_seq h f
theorem fin_last {σ' : Type} {st : σ'} {P' : σ' → Pt} (h : Fin ko a p (.nxt st : Ctl ρ σ') P' enc q) (f : Fin ko .skip (P' st) c P enc q) : Fin ko a p c P enc q := by
  have k : ∀ e o, ex (.seq a .skip) e = some o → ex a e = some o := fun e o z => by
    rw [ex] at z
    cases q : ex a e with
    | none => rw [q] at z; cases z
    | some o' =>
      rw [q] at z
      cases o' <;> first | exact z | (rw [ex] at z; exact z)
  exact fin_all (fun e o z _ => k e o z) (fin_seq h f)
theorem fin_retP {w : ρ} {σ' : Type} {P' : σ' → Pt} (f : Fin ko a p (.ret w : Ctl ρ σ') P' enc q) : Fin ko a p (.ret w : Ctl ρ σ) P enc q := f
theorem fin_seqBk {st : σ} (f : Fin ko a p (.brk st : Ctl ρ σ) P enc q) : Fin ko (.seq a b) p (.brk st : Ctl ρ σ) P enc q := fun e m => by
  obtain ⟨e', h1, h2⟩ := f e m
  exact ⟨e', by rw [ex, h1], h2⟩
theorem fin_ex {s1 s2 : S} (h : ∀ e, ex s1 e = ex s2 e) (f : Fin ko s2 p c P enc q) : Fin ko s1 p c P enc q := fin_step (fun e m => ⟨e, m, h e⟩) f
theorem ex_as (s1 s2 s3 : S) (e : Env') : ex (.seq (.seq s1 s2) s3) e = ex (.seq s1 (.seq s2 s3)) e := by
  simp only [ex]
  cases ex s1 e with
  | none => rfl
  | some o => cases o <;> rfl
theorem ex_cg {s1 s2 s3 : S} (h : ∀ e, ex s2 e = ex s3 e) (e : Env') : ex (.seq s1 s2) e = ex (.seq s1 s3) e := by
  simp only [ex]
  cases ex s1 e with
  | none => rfl
  | some o => cases o <;> first | rfl | exact h _
variable {s1 s2 s3 s4 s5 s6 t : S}
theorem fin_assoc2 (f : Fin ko (.seq s1 (.seq s2 t)) p c P enc q) : Fin ko (.seq (.seq s1 s2) t) p c P enc q := fin_ex (fun e => ex_as _ _ _ e) f
theorem fin_assoc3 (f : Fin ko (.seq s1 (.seq s2 (.seq s3 t))) p c P enc q) : Fin ko (.seq (.seq s1 (.seq s2 s3)) t) p c P enc q := fin_ex (fun e => (ex_as _ _ _ e).trans (ex_cg (fun e => ex_as _ _ _ e) e)) f
theorem fin_assoc4 (f : Fin ko (.seq s1 (.seq s2 (.seq s3 (.seq s4 t)))) p c P enc q) : Fin ko (.seq (.seq s1 (.seq s2 (.seq s3 s4))) t) p c P enc q := fin_ex (fun e => (ex_as _ _ _ e).trans (ex_cg (fun e => (ex_as _ _ _ e).trans (ex_cg (fun e => ex_as _ _ _ e) e)) e)) f
theorem fin_assoc5 (f : Fin ko (.seq s1 (.seq s2 (.seq s3 (.seq s4 (.seq s5 t))))) p c P enc q) : Fin ko (.seq (.seq s1 (.seq s2 (.seq s3 (.seq s4 s5)))) t) p c P enc q := fin_ex (fun e => (ex_as _ _ _ e).trans (ex_cg (fun e => (ex_as _ _ _ e).trans (ex_cg (fun e => (ex_as _ _ _ e).trans (ex_cg (fun e => ex_as _ _ _ e) e)) e)) e)) f
end
def optC {α β : Type} (o : Option α) (a : Option β) (b : α → Option β) : Option β := match o with
  | none => a
  | some x => b x
/-! ### tests -/
section
variable {ko : Bool} {α ρ σ : Type} {a b s : S} {c : Ctl ρ σ} {P : σ → Pt} {enc : ρ → D} {q : ρ → Env' → Prop} {x y z : Ex} {p p1 p2 : Pt} {r r2 : Rv} {d : D} {k k1 k2 : Bool}
def Tst (x : Ex) (p : Pt) (b : Bool) (p' : Pt) : Prop := ∃ r d, Ev x p r p' ∧ gp p' r = some d ∧ truth d = some b
theorem tst_of (h : Ev x p r p1) (hg : gp p1 r = some d) (ht : truth d = some k) : Tst x p k p1 := ⟨r, d, h, hg, ht⟩
theorem tk (h : Tst x p k p1) (e : k = k1) : Tst x p k1 p1 := e ▸ h
theorem tst_and (h : Tst x p k1 p1) (hy : k1 = true → Tst y p1 k2 p1) : Tst (.and_ x y) p (k1 && k2) p1 := by
  obtain ⟨r, d, h1, h2, h3⟩ := h
  cases k1 with
  | true =>
    obtain ⟨r', d', g1, g2, g3⟩ := hy rfl
    exact ⟨r', d', ev_andT h1 h2 h3 g1, g2, g3⟩
  | false => exact ⟨r, d, ev_andF h1 h2 h3, h2, h3⟩
theorem tst_or (h : Tst x p k1 p1) (hy : k1 = false → Tst y p1 k2 p1) : Tst (.or_ x y) p (k1 || k2) p1 := by
  obtain ⟨r, d, h1, h2, h3⟩ := h
  cases k1 with
  | false =>
    obtain ⟨r', d', g1, g2, g3⟩ := hy rfl
    exact ⟨r', d', ev_orF h1 h2 h3 g1, g2, g3⟩
  | true => exact ⟨r, d, ev_orT h1 h2 h3, h2, h3⟩
theorem tst_andM {tb : Option Bool} (h : Tst x p k1 p1) (q : (if k1 = true then tb else some false) = some k2) (hy : k1 = true → tb = some k2 → Tst y p1 k2 p1) : Tst (.and_ x y) p k2 p1 := by
  cases k1 with
  | true => exact tst_and h fun _ => hy rfl q
  | false => cases q; exact tst_and (k2 := false) h (fun z => nomatch z)
theorem tst_orM {tb : Option Bool} (h : Tst x p k1 p1) (q : (if k1 = true then some true else tb) = some k2) (hy : k1 = false → tb = some k2 → Tst y p1 k2 p1) : Tst (.or_ x y) p k2 p1 := by
  cases k1 with
  | true => cases q; exact tst_or (k2 := true) h (fun z => nomatch z)
  | false => exact tst_or h fun _ => hy rfl q
theorem tst_eq (h : Tst x p k1 p1) (e : some k1 = some k2) : Tst x p k2 p1 := tk h (Option.some.inj e)
theorem not_tst (h : Tst x p k p1) : Ev (.op notF [x]) p (.pers (.bl (!k))) p1 := by
  obtain ⟨r, d, h1, h2, h3⟩ := h
  refine ev_op (ds := [d]) (evs_c h1 evs_n) ?_ (not_of h3)
  unfold gps
  rw [h2]
  rfl
theorem evt_t (h : Tst x p k p1) : Evt [x] p k p1 := by
  obtain ⟨r, d, h1, h2, h3⟩ := h
  exact evt_c h1 h2 h3
theorem t_ifT (h : Tst x p true p1) (f : Fin ko a p1 c P enc q) : Fin ko (.iff x a b) p c P enc q := by
  obtain ⟨r, d, h1, h2, h3⟩ := h
  exact fin_ifT h1 h2 h3 f
theorem t_ifF (h : Tst x p false p1) (f : Fin ko b p1 c P enc q) : Fin ko (.iff x a b) p c P enc q := by
  obtain ⟨r, d, h1, h2, h3⟩ := h
  exact fin_ifF h1 h2 h3 f
theorem t_sifT (h : Tst x p true p1) (f : Fin ko (.seq a s) p1 c P enc q) : Fin ko (.seq (.iff x a b) s) p c P enc q := by
  obtain ⟨r, d, h1, h2, h3⟩ := h
  exact fin_sifT h1 h2 h3 f
theorem t_sifF (h : Tst x p false p1) (f : Fin ko (.seq b s) p1 c P enc q) : Fin ko (.seq (.iff x a b) s) p c P enc q := by
  obtain ⟨r, d, h1, h2, h3⟩ := h
  exact fin_sifF h1 h2 h3 f
theorem t_ite (h : Tst x p k p1) (ha : k = true → Ev y p1 r2 p2) (hb : k = false → Ev z p1 r2 p2) : Ev (.ite x y z) p r2 p2 := by
  obtain ⟨r, d, h1, h2, h3⟩ := h
  exact ev_ite h1 h2 h3 ha hb
theorem t_iteP {enc : α → D} {u v : α} (h : Tst x p k p1) (ha : k = true → Ev y p1 (.pers (enc u)) p2) (hb : k = false → Ev z p1 (.pers (enc v)) p2) : Ev (.ite x y z) p (.pers (enc (if k = true then u else v))) p2 := by
  obtain ⟨r, d, h1, h2, h3⟩ := h
  exact ev_iteP h1 h2 h3 ha hb
end
theorem fldR_nobrk {β ρ σ : Type} {t : β → σ → Option (Ctl ρ σ)} : ∀ {l : List β} {s s' : σ}, fldR t l s = some (.brk s') → False
  | [], _, _, h => by cases h
  | b :: l, s, s', h => by
    unfold fldR at h
    obtain ⟨c, h1, h2⟩ := Option.bind_eq_some_iff.mp h
    cases c with
    | nxt s1 => exact fldR_nobrk h2
    | brk s1 => cases h2
    | ret r => cases h2
theorem whl_nobrk {ρ σ : Type} {tc : σ → Option Bool} {t : σ → Option (Ctl ρ σ)} : ∀ {n : Nat} {s s' : σ}, whl tc t n s = some (.brk s') → False
  | 0, _, _, h => by cases h
  | n + 1, s, s', h => by
    unfold whl at h
    obtain ⟨k, h0, h⟩ := Option.bind_eq_some_iff.mp h
    cases k with
    | false => cases h
    | true =>
      obtain ⟨c, h1, h2⟩ := Option.bind_eq_some_iff.mp h
      cases c with
      | nxt s1 => exact whl_nobrk h2
      | brk s1 => cases h2
      | ret r => cases h2
def un2 {α : Type} (l : List α) : Option (α × α) := match l with
  | [a, b] => some (a, b)
  | _ => none
theorem un2_ok {α : Type} {l : List α} {w : α × α} (h : un2 l = some w) : some l = some [w.1, w.2] := by
  unfold un2 at h
  split at h
  · cases h; rfl
  · cases h
def un3 {α : Type} (l : List α) : Option (α × α × α) := match l with
  | [a, b, c] => some (a, b, c)
  | _ => none
theorem un3_ok {α : Type} {l : List α} {w : α × α × α} (h : un3 l = some w) : some l = some [w.1, w.2.1, w.2.2] := by
  unfold un3 at h
  split at h
  · cases h; rfl
  · cases h
theorem ev_chainM {x y z : Ex} {p p1 p2 : Pt} {ra rb : Rv} {f g : List D → Option D} {ds : List D} {a v : Bool} {tb : Option Bool} (hx : Ev x p ra p1) (hy : Ev y p1 rb p2) (hg : gps p2 [ra, rb] = some ds) (hf : f ds = some (.bl a)) (q : (if a = true then tb else some false) = some v)
    (hz : a = true → tb = some v → ∃ rc ds2, Ev z p2 rc p2 ∧ gps p2 [rb, rc] = some ds2 ∧ g ds2 = some (.bl v)) : Ev (.chain f g x y z) p (.pers (.bl v)) p2 := by
  cases a with
  | true =>
    obtain ⟨rc, ds2, h1, h2, h3⟩ := hz rfl q
    have := ev_chain (b := v) hx hy hg hf (fun _ => h1) h2 (fun _ => h3)
    simpa using this
  | false =>
    cases q
    intro e m
    obtain ⟨e1, h1, m1⟩ := hx e m
    obtain ⟨e2, h2, m2⟩ := hy e1 m1
    exact ⟨e2, by unfold ev; simp only [h1, h2, gps_ok m2 hg, hf] <;> rfl, m2⟩
theorem allL_ok {pb : Int → Int → Bool} {l m : List Int} : allZF pb [eLst eInt l, eLst eInt m] = some (.bl ((l.zip m).all fun q => pb q.1 q.2)) := by
  show allZL pb (l.map eInt) (m.map eInt) = _
  unfold allZL
  rw [intsOf_map', intsOf_map']
theorem allT_ok {pb : Int → Int → Bool} {l m : List Int} : allZF pb [eTup eInt l, eTup eInt m] = some (.bl ((l.zip m).all fun q => pb q.1 q.2)) := by
  show allZL pb (l.map eInt) (m.map eInt) = _
  unfold allZL
  rw [intsOf_map', intsOf_map']
end Mi.T

namespace Mi.T
open PySem PySem.Spec PyProof.Rows L2 GxR
section
variable {ρ σ : Type} {P : σ → Pt} {enc : ρ → D} {q : ρ → Env' → Prop} {x : Ex} {p p1 : Pt} {d : D} {i : Nat}
theorem fin_retOE {v w : ρ} (h : Ev x p (.pers d) p1) (hd : d = enc v) (k : some v = some w) (hq : ∀ e, Mt p1 e → q v e) : Fin true (.retO x) p (.ret w) P enc q := by
  cases k
  exact fin_retO h hd hq
theorem fin_retVE {v w : ρ} (hi : p[i]? = some (.ex (.ow d))) (hd : d = enc v) (k : some v = some w) (hq : ∀ e, Mt p e → q v e) : Fin true (.retV i) p (.ret w) P enc q := by
  cases k
  exact fin_retV hi hd hq
end
theorem orF_l {f g : List D → Option D} {ds : List D} {d : D} (h : f ds = some d) : orF f g ds = some d := by
  unfold orF
  rw [h]
theorem orF_r {f g : List D → Option D} {ds : List D} {d : D} (h0 : f ds = none) (h : g ds = some d) : orF f g ds = some d := by
  unfold orF
  rw [h0]
  exact h
theorem cnt_ok {l : List Int} {n : Int} : cntF [eLst eInt l, eInt n] = some (eInt ((l.count n : Nat) : Int)) := by
  show (intsOf (l.map D.int)).map _ = _
  rw [intsOf_int]
  rfl
section
variable {α : Type} {e : α → D}
def bestOk : List D → Bool
  | [] => false
  | x :: r => x.same x && r.all (fun y => x.same y) && (x :: r).all (fun y => y.shp 16) && (intsOf (x :: r)).isNone
def tbest (lt : D → D → Bool) (e : α → D) (l : List α) : Option α := if bestOk (l.map e) then (match l with
  | [] => none
  | x :: r => some (r.foldl (fun a y => if lt (e a) (e y) then y else a) x)) else none
theorem foldl_enc {lt : D → D → Bool} : ∀ (r : List α) (x : α), (r.map e).foldl (fun a y => if lt a y then y else a) (e x) = e (r.foldl (fun a y => if lt (e a) (e y) then y else a) x)
  | [], _ => rfl
  | y :: r, x => by
    rw [List.map_cons, List.foldl_cons, List.foldl_cons, ← foldl_enc r]
    congr 1
    split <;> rfl
theorem rev_ok {l : List α} : revF [eTup e l] = some (eTup e l.reverse) := by
  show some (D.tup (l.map e).reverse) = some (D.tup (l.reverse.map e))
  rw [List.map_reverse]
theorem tbest_spec {lt : D → D → Bool} {l : List α} {m : α} (h : tbest lt e l = some m) : intsOf (l.map e) = none ∧ bestL (fun x l => l.foldl (fun a y => if lt a y then y else a) x) (l.map e) = some (e m) := by
  unfold tbest at h
  by_cases hz : bestOk (l.map e) = true
  case neg => rw [if_neg hz] at h; cases h
  rw [if_pos hz] at h
  cases l with
  | nil => cases h
  | cons x r =>
    cases h
    simp only [List.map_cons, bestOk, Bool.and_eq_true] at hz
    refine ⟨Option.isNone_iff_eq_none.mp hz.2, ?_⟩
    simp only [List.map_cons, bestL]
    rw [if_pos ⟨hz.1.1.1, hz.1.1.2, hz.1.2⟩, foldl_enc]
def tmaxB (e : α → D) (l : List α) : Option α := tbest dlt e l
def tminB (e : α → D) (l : List α) : Option α := tbest (fun a y => dlt y a) e l
theorem tmaxB_ok {l : List α} {m : α} (h : tmaxB e l = some m) : maxAF [eLst e l] = some (e m) := by
  obtain ⟨h1, h2⟩ := tbest_spec h
  refine orF_r ?_ h2
  show numsF _ [.lst (l.map e)] = none
  simp only [numsF]
  rw [h1]
theorem tmaxBT_ok {l : List α} {m : α} (h : tmaxB e l = some m) : maxAF [eTup e l] = some (e m) := by
  obtain ⟨h1, h2⟩ := tbest_spec h
  refine orF_r ?_ h2
  show numsF _ [.tup (l.map e)] = none
  simp only [numsF]
  rw [h1]
theorem tminB_ok {l : List α} {m : α} (h : tminB e l = some m) : minAF [eLst e l] = some (e m) := by
  obtain ⟨h1, h2⟩ := tbest_spec h
  refine orF_r ?_ h2
  show numsF _ [.lst (l.map e)] = none
  simp only [numsF]
  rw [h1]
theorem tminBT_ok {l : List α} {m : α} (h : tminB e l = some m) : minAF [eTup e l] = some (e m) := by
  obtain ⟨h1, h2⟩ := tbest_spec h
  refine orF_r ?_ h2
  show numsF _ [.tup (l.map e)] = none
  simp only [numsF]
  rw [h1]
end
end Mi.T

/-! Typed mirrors of generator expressions in all(..), any(..). -/
namespace Mi.T
open PySem PySem.Spec PyProof.Rows L2 GxR
def tgn {β : Type} (st : Bool) (t : β → Option (Option Bool)) : List β → Option Bool
  | [] => some (!st)
  | b :: l => (t b).bind fun o => match o with
    | none => tgn st t l
    | some c => if c = st then some st else tgn st t l
/-- no tests, no partial steps -/
def initP (nt : Nat) (ds : List D) : Pt := List.replicate nt (.ex .un) ++ ds.map fun d => .ex (.im d)
theorem mt_ims : ∀ (ds : List D), Mt (ds.map fun d => Sl.ex (.im d)) (ds.map B.im)
  | [] => .nil
  | _ :: ds => .cons rfl (mt_ims ds)
theorem mt_init : ∀ (nt : Nat) (ds : List D), Mt (initP nt ds) (initG nt ds)
  | 0, ds => mt_ims ds
  | nt + 1, ds => .cons rfl (mt_init nt ds)
def GTurn (tg : Tg) (vs : List Nat) (cs : List Ex) (x : Ex) (p : Pt) (d : D) (o : Option D) : Prop := ∀ e, Mt p e → ∃ e', gnTurn tg vs cs x d e = some (o, e') ∧ Mt p e'
section
variable {tg : Tg} {vs : List Nat} {cs : List Ex} {x : Ex} {p p1 p2 p3 : Pt} {d y : D}
theorem gturnK {b : Bool} (hb : tg.bp d p = some p1) (hc : Evt cs p1 true p2) (he : Ev x p2 (.pers (.bl b)) p3) (hw : wipeP p3 vs = p) : GTurn tg vs cs x p d (some (.bl b)) := fun e m => by
  obtain ⟨e1, h1, m1⟩ := Tg.bp_ok tg m hb
  obtain ⟨e2, h2, m2⟩ := hc e1 m1
  obtain ⟨e3, h3, m3⟩ := he e2 m2
  exact ⟨_, by unfold gnTurn; simp only [h1, h2, h3], hw ▸ m3.wipe vs⟩
theorem gturnD (hb : tg.bp d p = some p1) (hc : Evt cs p1 false p2) (hw : wipeP p2 vs = p) : GTurn tg vs cs x p d none := fun e m => by
  obtain ⟨e1, h1, m1⟩ := Tg.bp_ok tg m hb
  obtain ⟨e2, h2, m2⟩ := hc e1 m1
  exact ⟨_, by unfold gnTurn; simp only [h1, h2], hw ▸ m2.wipe vs⟩
theorem gnAll_T {β : Type} {st : Bool} {I : β → D} {t : β → Option (Option Bool)} (turn : ∀ b o, t b = some o → GTurn tg vs cs x p (I b) (o.map D.bl)) : ∀ (l : List β) {r : Bool}, tgn st t l = some r → ∀ e, Mt p e → gnAll st (gnTurn tg vs cs x) (l.map I) e = some r
  | [], r, h, e, m => by cases h; rfl
  | b :: l, r, h, e, m => by
    unfold tgn at h
    obtain ⟨o, h1, h⟩ := Option.bind_eq_some_iff.mp h
    obtain ⟨e1, k1, m1⟩ := turn b o h1 e m
    rw [List.map_cons]
    unfold gnAll
    rw [k1]
    cases o with
    | none => exact gnAll_T turn l h e1 m1
    | some c =>
      dsimp only [Option.map] at h ⊢
      by_cases z : c = st
      · rw [if_pos z] at h ⊢; exact h
      · rw [if_neg z] at h ⊢; exact gnAll_T turn l h e1 m1
theorem ev_gn {β : Type} {st : Bool} {I : β → D} {t : β → Option (Option Bool)} {nx nt : Nat} {g : List D → Option (List D)} {xs : List Ex} {q q1 q2 p0 : Pt} {rs : List Rv} {ds : List D} {l : List β} {r : Bool}
    (h : Evs xs q rs q1) (hs : sps q1 rs = some (ds, q2)) (hg : g (ds.take nx) = some (l.map I)) (hp : initP nt (ds.drop nx) = p0) (turn : ∀ b o, t b = some o → GTurn tg (List.range nt) cs x p0 (I b) (o.map D.bl)) (k : tgn st t l = some r) : Ev (.mk (gnF st nx g nt tg cs x) xs) q (.pers (.bl r)) q2 := by
  refine ev_mk h hs ?_
  unfold gnF
  rw [hg]
  show (match gnAll st (gnTurn tg (List.range nt) cs x) (l.map I) (initG nt (ds.drop nx)) with
    | some b => some (D.bl b)
    | none => none) = _
  rw [gnAll_T turn l k _ (hp ▸ mt_init nt _)]
end
theorem optC_s {α β : Type} {x : α} {a : Option β} {b : α → Option β} {r : Option β} (h : optC (some x) a b = r) : b x = r := h
theorem optC_some {α β : Type} (x : α) (a : Option β) (b : α → Option β) : optC (some x) a b = b x := rfl
theorem optC_none {α β : Type} (a : Option β) (b : α → Option β) : optC none a b = a := rfl
theorem optC_n {α β : Type} {a : Option β} {b : α → Option β} {r : Option β} (h : optC none a b = r) : a = r := h
/-- the order of alike data -/
def tord (g : D → D → Bool) (x y : D) : Option Bool := if (x.same x && (x.same y && (x.shp 16 && y.shp 16))) = true then some (g x y) else none
theorem tord_ok {f : List D → Option D} {g : D → D → Bool} {x y : D} {b : Bool} (h0 : f [x, y] = none) (h : tord g x y = some b) : orF f (datF g) [x, y] = some (.bl b) := by
  refine orF_r h0 ?_
  unfold tord at h
  unfold datF
  dsimp only
  by_cases hz : (x.same x && (x.same y && (x.shp 16 && y.shp 16))) = true
  · rw [if_pos hz] at h ⊢
    cases h
    rfl
  · rw [if_neg hz] at h
    cases h
/-- a list or a tuple -/
def eSq {α : Type} (e : α → D) (q : Bool × List α) : D := if q.1 then eLst e q.2 else eTup e q.2
theorem it_seq {α : Type} {e : α → D} {q : Bool × List α} : itemsF [eSq e q] = some (q.2.map e) := by
  obtain ⟨b, l⟩ := q
  cases b
  · exact it_tup
  · exact it_lst
theorem tupl_seq {α : Type} {e : α → D} {q : Bool × List α} : tupleF [eSq e q] = some (eTup e q.2) := by
  obtain ⟨b, l⟩ := q
  cases b <;> rfl
/-- in plain words -/
theorem tgn_all {β : Type} {c : β → Bool} {l : List β} : tgn false (fun b => some (some (c b))) l = some (l.all c) := by
  induction l with
  | nil => rfl
  | cons b l ih =>
    unfold tgn
    show (if c b = false then some false else _) = _
    rw [ih, List.all_cons]
    cases c b <;> rfl
theorem tgn_any {β : Type} {c : β → Bool} {l : List β} : tgn true (fun b => some (some (c b))) l = some (l.any c) := by
  induction l with
  | nil => rfl
  | cons b l ih =>
    unfold tgn
    show (if c b = true then some true else _) = _
    rw [ih, List.any_cons]
    cases c b <;> rfl
theorem tgn_of {β : Type} {st : Bool} {t : β → Option (Option Bool)} {c : β → Bool} {l : List β} (h : ∀ b ∈ l, t b = some (some (c b))) : tgn st t l = some (if l.any (fun b => c b == st) then st else !st) := by
  induction l with
  | nil => rfl
  | cons b l ih =>
    unfold tgn
    rw [h b (by simp)]
    show (if c b = st then some st else tgn st t l) = _
    rw [ih fun b hb => h b (by simp [hb]), List.any_cons]
    by_cases z : c b = st
    · rw [if_pos z]; simp [z]
    · rw [if_neg z]; simp [z]
end Mi.T

/-! Typed mirrors of dicts. -/
namespace Mi.T
open PySem PySem.Spec PyProof.Rows L2 GxR
section
variable {α β γ : Type} {k : α → D} {e : β → D} {t : Bool}
/-- a dict: its pairs in their order; t: the keys are tuples -/
def eD (t : Bool) (k : α → D) (e : β → D) (l : List (α × β)) : D := .dic (rowK t (l.map fun p => k p.1)) (l.map fun p => e p.2)
abbrev dks (l : List (α × β)) : List α := l.map (·.1)
def KeyE (t : Bool) (k : α → D) : Prop := ∀ x, (if t = true then keyT (k x) else keyK (k x)) = true
theorem kE_int : KeyE false eInt := fun _ => rfl
theorem kE_str : KeyE false eStr := fun _ => rfl
theorem kT_tup (h : KeyE false k) : KeyE true (eTup k) := fun l => by
  show (D.tup (l.map k) |> keyT) = true
  unfold keyT
  dsimp only
  rw [List.all_map]
  exact List.all_eq_true.mpr fun x _ => h x
theorem kT_2 {a : α → D} {b : β → D} (ha : KeyE false a) (hb : KeyE false b) : KeyE true (e2 a b) := fun x => by
  show keyT (D.tup [a x.1, b x.2]) = true
  have h1 := ha x.1
  have h2 := hb x.2
  simp only [keyT, List.all_cons, List.all_nil]
  rw [if_neg (by decide)] at h1 h2
  rw [h1, h2]
  rfl
theorem kT_3 {a : α → D} {b : β → D} {c : γ → D} (ha : KeyE false a) (hb : KeyE false b) (hc : KeyE false c) : KeyE true (e3 a b c) := fun x => by
  show keyT (D.tup [a x.1, b x.2.1, c x.2.2]) = true
  have h1 := ha x.1
  have h2 := hb x.2.1
  have h3 := hc x.2.2
  simp only [keyT, List.all_cons, List.all_nil]
  rw [if_neg (by decide)] at h1 h2 h3
  rw [h1, h2, h3]
  rfl
theorem keyK_not {d : D} (h : keyK d = true) : d ≠ .non := fun z => by rw [z] at h; cases h
theorem row_T (hk : KeyE t k) (l : List (α × β)) : isTK (rowK t (l.map fun p => k p.1)) = t ∧ keysD (rowK t (l.map fun p => k p.1)) = l.map fun p => k p.1 := by
  cases t with
  | true => exact ⟨rfl, rfl⟩
  | false =>
    cases l with
    | nil => exact ⟨rfl, rfl⟩
    | cons p l =>
      have h := hk p.1
      rw [if_neg (by decide)] at h
      show isTK (k p.1 :: _) = false ∧ keysD (k p.1 :: _) = k p.1 :: _
      cases q : k p.1 <;> first | exact ⟨rfl, rfl⟩ | (rw [q] at h; cases h)
theorem keyB_T (hk : KeyE t k) (l : List (α × β)) (x : α) : keyB (rowK t (l.map fun p => k p.1)) (k x) = true := by
  unfold keyB
  rw [(row_T hk l).1]
  exact hk x
def dlk [BEq α] (l : List (α × β)) (x : α) : Option β := (l.find? fun p => p.1 == x).map (·.2)
theorem lookD_T [BEq α] (h : EqE k) (l : List (α × β)) (x : α) : lookD (l.map fun p => k p.1) (l.map fun p => e p.2) (k x) = (dlk l x).map e := by
  unfold lookD dlk
  rw [List.zip_map', List.find?_map]
  have z : ((fun p : D × D => p.1.eqv (k x)) ∘ fun p : α × β => (k p.1, e p.2)) = fun p : α × β => p.1 == x := by
    funext p
    exact h p.1 x
  rw [z]
  cases l.find? fun p => p.1 == x <;> rfl
theorem dix_ok [BEq α] (h : EqE k) (hk : KeyE t k) {l : List (α × β)} {x : α} {y : β} (q : dlk l x = some y) : ixA [eD t k e l, k x] = some (e y) := by
  show dgetF [.dic _ _, k x] = _
  unfold dgetF
  dsimp only
  rw [if_pos (keyB_T hk l x), (row_T hk l).2, lookD_T h, q]
  rfl
theorem din_ok [BEq α] (h : EqE k) (hk : KeyE t k) {l : List (α × β)} {x : α} (n : Bool) : memA n [k x, eD t k e l] = some (.bl (n != (dlk l x).isSome)) := by
  show (if keyB (rowK t (l.map fun p => k p.1)) (k x) then some (D.bl (n != (lookD (keysD (rowK t (l.map fun p => k p.1))) (l.map fun p => e p.2) (k x)).isSome)) else none) = _
  rw [if_pos (keyB_T hk l x), (row_T hk l).2, lookD_T h, Option.isSome_map]
theorem dget1_ok [BEq α] (h : EqE k) (hk : KeyE t k) {l : List (α × β)} {x : α} : dget1F [eD t k e l, k x] = some (eOp e (dlk l x)) := by
  show (if keyB (rowK t (l.map fun p => k p.1)) (k x) then some ((lookD (keysD (rowK t (l.map fun p => k p.1))) (l.map fun p => e p.2) (k x)).getD .non) else none) = _
  rw [if_pos (keyB_T hk l x), (row_T hk l).2, lookD_T h]
  cases dlk l x <;> rfl
theorem dget2_ok [BEq α] (h : EqE k) (hk : KeyE t k) {l : List (α × β)} {x : α} {z : β} : dget2F [eD t k e l, k x, e z] = some (e ((dlk l x).getD z)) := by
  show (if keyB (rowK t (l.map fun p => k p.1)) (k x) then some ((lookD (keysD (rowK t (l.map fun p => k p.1))) (l.map fun p => e p.2) (k x)).getD (e z)) else none) = _
  rw [if_pos (keyB_T hk l x), (row_T hk l).2, lookD_T h]
  cases dlk l x <;> rfl
theorem dlen_ok {l : List (α × β)} : lenA [eD t k e l] = some (.int (l.length : Int)) := by
  show some (D.int ((l.map fun p => e p.2).length : Int)) = _
  rw [List.length_map]
/-- stored -/
def dput0 [BEq α] (l : List (α × β)) (x : α) (y : β) : List (α × β) := if l.any (fun p => p.1 == x) then l.map (fun p => if p.1 == x then (p.1, y) else p) else l ++ [(x, y)]
def dput [BEq α] (l : List (α × β)) (x : α) (y : β) : Option (List (α × β)) := if l.length + 1 < 1000000 then some (dput0 l x y) else none
theorem put_any [BEq α] (h : EqE k) (l : List (α × β)) (x : α) : ((l.map fun p => k p.1).any fun z => z.eqv (k x)) = l.any fun p => p.1 == x := by
  rw [List.any_map]
  congr 1
  funext p
  exact h p.1 x
theorem putKs_T [BEq α] (h : EqE k) (l : List (α × β)) (x : α) (y : β) : putKs (l.map fun p => k p.1) (k x) = (dput0 l x y).map fun p => k p.1 := by
  unfold putKs dput0
  rw [put_any h]
  split
  · rw [List.map_map]
    refine List.map_congr_left fun p _ => ?_
    show k p.1 = k (if (p.1 == x) = true then (p.1, y) else p).1
    split <;> rfl
  · rw [List.map_append]
    rfl
theorem putVs_T [BEq α] (h : EqE k) (l : List (α × β)) (x : α) (y : β) : putVs (l.map fun p => k p.1) (l.map fun p => e p.2) (k x) (e y) = (dput0 l x y).map fun p => e p.2 := by
  unfold putVs dput0
  rw [put_any h]
  split
  · rw [List.zip_map', List.map_map, List.map_map]
    refine List.map_congr_left fun p _ => ?_
    show (if ((k p.1).eqv (k x)) = true then e y else e p.2) = e (if (p.1 == x) = true then (p.1, y) else p).2
    rw [h]
    split <;> rfl
  · rw [List.map_append]
    rfl
theorem dput_ok [BEq α] (h : EqE k) (hk : KeyE t k) {l l' : List (α × β)} {x : α} {y : β} (q : dput l x y = some l') : setA (eD t k e l) (k x) (e y) = some (eD t k e l') := by
  unfold dput at q
  split at q
  · rename_i hl
    cases q
    show (if keyB (rowK t (l.map fun p => k p.1)) (k x) = true ∧ (rowK t (l.map fun p => k p.1)).length < 1000000 then some (D.dic (rowK (isTK (rowK t (l.map fun p => k p.1))) (putKs (keysD (rowK t (l.map fun p => k p.1))) (k x))) (putVs (keysD (rowK t (l.map fun p => k p.1))) (l.map fun p => e p.2) (k x) (e y))) else none) = _
    have hl2 : (rowK t (l.map fun p => k p.1)).length < 1000000 := by
      unfold rowK
      split
      · rw [List.length_cons, List.length_map]; exact hl
      · rw [List.length_map]; omega
    rw [if_pos ⟨keyB_T hk l x, hl2⟩, (row_T hk l).1, (row_T hk l).2, putKs_T h l x y, putVs_T h]
    rfl
  · cases q
/-- of a list of pairs -/
def mkd [BEq α] (l : List (α × β)) : List (α × β) := l.foldl (fun a p => dput0 a p.1 p.2) []
theorem pairsD_T : ∀ l : List (α × β), pairsD (l.map (e2 k e)) = some (l.map fun p => (k p.1, e p.2))
  | [] => rfl
  | p :: l => by
    show (pairsD (l.map (e2 k e))).map _ = _
    rw [pairsD_T l]
    rfl
theorem mkDic_T [BEq α] (h : EqE k) : ∀ (l a : List (α × β)), mkDic (l.map fun p => (k p.1, e p.2)) (a.map fun p => k p.1) (a.map fun p => e p.2) = ((l.foldl (fun a p => dput0 a p.1 p.2) a).map (fun p => k p.1), (l.foldl (fun a p => dput0 a p.1 p.2) a).map fun p => e p.2)
  | [], a => rfl
  | p :: l, a => by
    have ih := mkDic_T h l (dput0 a p.1 p.2)
    unfold mkDic at ih ⊢
    rw [List.map_cons, List.foldl_cons, List.foldl_cons, ← ih]
    dsimp only
    rw [putKs_T h a p.1 p.2, putVs_T h]
theorem mkd_ok [BEq α] (h : EqE k) (hk : KeyE false k) {l : List (α × β)} : dictF [eLst (e2 k e) l] = some (eD false k e (mkd l)) := by
  show (match pairsD (l.map (e2 k e)) with
    | some ps => if (ps.all fun p => keyK p.1) = true then some (D.dic (mkDic ps [] []).1 (mkDic ps [] []).2) else none
    | none => none) = _
  rw [pairsD_T]
  dsimp only
  rw [if_pos (List.all_eq_true.mpr fun p hp => by
    obtain ⟨q, _, rfl⟩ := List.mem_map.mp hp
    have := hk q.1
    rw [if_neg (by decide)] at this
    exact this)]
  have := mkDic_T (e := e) h l []
  rw [List.map_nil, List.map_nil] at this
  rw [this]
  rfl
theorem disp1_ok (hk : KeyE false k) {x : α} {y : β} : disp1F [k x, e y] = some (eD false k e [(x, y)]) := by
  have := hk x
  rw [if_neg (by decide)] at this
  show (if keyK (k x) then some (D.dic [k x] [e y]) else none) = _
  rw [if_pos this]
  rfl
theorem keys_T (hk : KeyE t k) (l : List (α × β)) : keysD (rowK t (l.map fun p => k p.1)) = (l.map (·.1)).map k := by
  rw [(row_T hk l).2, List.map_map]
  try rfl
theorem dsort_ok (hk : KeyE t k) {l : List (α × β)} {m : List α} (q : tsort k (l.map (·.1)) = some m) : sortA [eD t k e l] = some (eLst k m) := by
  have h := tsort_ok q
  show (sortL (keysD (rowK t (l.map fun p => k p.1)))).map D.lst = _
  rw [keys_T hk]
  exact h
theorem dlist_ok (hk : KeyE t k) {l : List (α × β)} : listA [eD t k e l] = some (eLst k (l.map (·.1))) := by
  show some (D.lst (keysD (rowK t (l.map fun p => k p.1)))) = _
  rw [keys_T hk]
  try rfl
theorem it_dic (hk : KeyE t k) {l : List (α × β)} : keysF [eD t k e l] = some ((l.map (·.1)).map k) := by
  show some (keysD (rowK t (l.map fun p => k p.1))) = _
  rw [keys_T hk]
end
end Mi.T

namespace Mi.T
open PySem PySem.Spec PyProof.Rows L2 GxR
variable {α : Type} {e : α → D} {p p1 p2 p3 p4 p5 p6 : Pt}
theorem storeD_ok {f : D → D → D → Option D} {i : Nat} {k : Ex} {rk : Rv} {o o' dk d : D} {en : Env'} (m : Mt p2 en) (o1 : ownP p2 i = true) (hk : Ev k p2 rk p3) (h2 : sp p3 rk = some (dk, p4)) (hi : p4[i]? = some (.ex (.ow o))) (hf : f o dk d = some o') :
    ∃ e', storeD f i k d en = some e' ∧ Mt (p4.set i (.ex (.ow o'))) e' := by
  obtain ⟨e1, h1, m1⟩ := hk en m
  obtain ⟨e2, g1, m2⟩ := sp_ok m1 h2
  obtain ⟨c, k1, k2⟩ := m2.get hi
  cases k2
  refine ⟨e2.set i (.ow o'), ?_, m2.set i rfl⟩
  unfold storeD
  simp only [ownP_ok m o1, if_true, h1, g1, k1, hf]
theorem nx_sub2 {f : D → D → D → Option D} {i j : Nat} {x k l : Ex} {r rk rl : Rv} {o o' q q' dk dl d1 d2 : D} (hx : Ev x p r p1) (h1 : sp p1 r = some (.tup [d1, d2], p2)) (o1 : ownP p2 i = true) (hk : Ev k p2 rk p3) (h2 : sp p3 rk = some (dk, p4)) (hi : p4[i]? = some (.ex (.ow o))) (hf : f o dk d1 = some o')
    (o2 : ownP (p4.set i (.ex (.ow o'))) j = true) (hl : Ev l (p4.set i (.ex (.ow o'))) rl p5) (h3 : sp p5 rl = some (dl, p6)) (hj : p6[j]? = some (.ex (.ow q))) (hg : f q dl d2 = some q') : Nx (.sub2 f i k j l x) p (p6.set j (.ex (.ow q'))) := fun e m => by
  obtain ⟨e1, g1, m1⟩ := hx e m
  obtain ⟨e2, g2, m2⟩ := sp_ok m1 h1
  obtain ⟨e3, g3, m3⟩ := storeD_ok m2 o1 hk h2 hi hf
  obtain ⟨e4, g4, m4⟩ := storeD_ok m3 o2 hl h3 hj hg
  exact ⟨e4, by unfold ex; simp only [g1, g2, g3, g4], m4⟩
theorem revL_ok {l : List α} : revLF [eLst e l] = some (eLst e l.reverse) := by
  show some (D.lst (l.map e).reverse) = some (D.lst (l.reverse.map e))
  rw [List.map_reverse]
theorem disp1T_ok {β : Type} {k : α → D} {e : β → D} (hk : KeyE true k) {x : α} {y : β} : disp1TF [k x, e y] = some (eD true k e [(x, y)]) := by
  have := hk x
  rw [if_pos rfl] at this
  show (if keyT (k x) then some (D.dic [.non, k x] [e y]) else none) = _
  rw [if_pos this]
  rfl

theorem ctl_n {ρ σ α : Type} {s : σ} {f : σ → Option α} {g : ρ → Option α} {r : Option α} (h : ctl (.nxt s) f g = r) : f s = r := h
end Mi.T

/-! chains of three comparisons, typed. -/
namespace Mi.T
open PySem PySem.Spec PyProof.Rows L2 GxR
theorem ev_chain3 {x y z w : Ex} {p p1 p2 : Pt} {ra rb rc rd : Rv} {f g h : List D → Option D} {ds ds2 ds3 : List D} {a b c : Bool} (hx : Ev x p ra p1) (hy : Ev y p1 rb p2) (hg : gps p2 [ra, rb] = some ds) (hf : f ds = some (.bl a)) (hz : Ev z p2 rc p2) (hg2 : gps p2 [rb, rc] = some ds2) (hf2 : g ds2 = some (.bl b)) (hw : Ev w p2 rd p2) (hg3 : gps p2 [rc, rd] = some ds3) (hf3 : h ds3 = some (.bl c)) : Ev (.chain3 f g h x y z w) p (.pers (.bl (a && (b && c)))) p2 := fun e m => by
  obtain ⟨e1, h1, m1⟩ := hx e m
  obtain ⟨e2, h2, m2⟩ := hy e1 m1
  cases a with
  | true =>
    obtain ⟨e3, h3, m3⟩ := hz e2 m2
    cases b with
    | true =>
      obtain ⟨e4, h4, m4⟩ := hw e3 m3
      exact ⟨e4, by unfold ev; simp only [h1, h2, gps_ok m2 hg, hf, h3, gps_ok m3 hg2, hf2, h4, gps_ok m4 hg3, hf3] <;> rfl, m4⟩
    | false => exact ⟨e3, by unfold ev; simp only [h1, h2, gps_ok m2 hg, hf, h3, gps_ok m3 hg2, hf2] <;> rfl, m3⟩
  | false => exact ⟨e2, by unfold ev; simp only [h1, h2, gps_ok m2 hg, hf] <;> rfl, m2⟩
end Mi.T

/-! sorted(set(..)) of pairs, typed. -/
namespace Mi.T
open PySem PySem.Spec PyProof.Rows L2 GxR
def tss (l : List (Int × Int)) : Option (List (Int × Int)) := if l.all okP = true ∧ l.length < 64 then some (ssL l) else none
theorem prs_map : ∀ {l : List (Int × Int)}, l.all okP = true → prsOf (l.map (e2 eInt eInt)) = some l
  | [], _ => rfl
  | p :: l, h => by
    rw [List.all_cons, Bool.and_eq_true] at h
    show (if okP (p.1, p.2) = true then (prsOf (l.map (e2 eInt eInt))).map _ else none) = _
    rw [if_pos h.1, prs_map h.2]
    rfl
theorem tss_ok {l m : List (Int × Int)} (h : tss l = some m) : ssF [eLst (e2 eInt eInt) l] = some (eLst (e2 eInt eInt) m) := by
  unfold tss at h
  split at h
  · rename_i hz
    cases h
    show (match prsOf (l.map (e2 eInt eInt)) with
      | some ps => if ps.length < 64 then some (D.lst ((ssL ps).map prD)) else none
      | none => none) = _
    rw [prs_map hz.1]
    show (if l.length < 64 then _ else _) = _
    rw [if_pos hz.2]
    rfl
  · cases h
end Mi.T

namespace Mi
open PySem PySem.Spec PyProof.Rows L2 GxR
def s__law_taken : S := .seq (.iff (.op gtG [.op ixA [.var 0, .cst (.int 3)], .cst (.int 0)]) (.seq (.set (.nm 2) (.op modF [.op intF [.op ixA [.var 0, .cst (.int 3)]], .var 1])) (
      .seq (.sub setA 0 (.cst (.int 3)) (.op fdivF [.op ixA [.var 0, .cst (.int 3)], .var 1])) (
      .ret (.var 2)))) (.skip)) (
    .seq (.sub setA 0 (.cst (.int 1)) (.op addF [.op ixA [.var 0, .cst (.int 1)], .cst (.int 1)])) (
    .seq (.iff (.op gtG [.op ixA [.var 0, .cst (.int 1)], .op lenA [.op ixA [.var 0, .cst (.int 0)]]]) (.seq (.sub setA 0 (.cst (.int 2)) (.op modF [.op intF [.op addF [.op mulF [.op ixA [.var 0, .cst (.int 2)], .cst (.int 48271)], .cst (.int 11)]], .cst (.int 2147483647)])) (
      .ret (.op modF [.op intF [.op fdivF [.op ixA [.var 0, .cst (.int 2)], .cst (.int 7)]], .var 1]))) (.skip)) (
    .seq (.set (.nm 3) (.op ixA [.op ixA [.var 0, .cst (.int 0)], .op subF [.op ixA [.var 0, .cst (.int 1)], .cst (.int 1)]])) (
    .seq (.sub setA 0 (.cst (.int 2)) (.op modF [.op intF [.op addF [.op addF [.op mulF [.op ixA [.var 0, .cst (.int 2)], .cst (.int 48271)], .var 3], .cst (.int 11)]], .cst (.int 2147483647)])) (
    .seq (.iff (.op geG [.var 3, .op powF [.cst (.int 10), .cst (.int 18)]]) (.sub setA 0 (.cst (.int 3)) (.op fdivF [.var 3, .var 1])) (.skip)) (
    .ret (.op modF [.op intF [.var 3], .var 1])))))))
def φ__law_taken : List D → Option (D × D) := runO 2 4 s__law_taken
def lc__law_alike_1 (φ : List D → Option D) : Ex := .lc range1F [.op lenA [.var 1]] [2] (.nm 2) [.op notF [.call φ [.op ixA [.var 0, .var 2], .op ixA [.var 1, .var 2]]]] (.var 2)
def s__law_alike (φ : List D → Option D) : S := .seq (.iff (.op (isiF [.tuple, .list]) [.var 1]) (.seq (.iff (.or_ (.op notF [.op (isiF [.tuple, .list]) [.var 0]]) (.op neF [.op (isiF [.list]) [.var 0], .op (isiF [.list]) [.var 1]])) (.ret (.cst (.bl false))) (.skip)) (
      .seq (.iff (.op neF [.op lenA [.var 0], .op lenA [.var 1]]) (.ret (.cst (.bl false))) (.skip)) (
      .ret (.op eqF [(lc__law_alike_1 φ), .mk lstF []])))) (.skip)) (
    .seq (.iff (.or_ (.op isNF [.var 1, .cst .non]) (.op (isiF [.str]) [.var 1])) (.ret (.and_ (.op eqF [.var 0, .var 1]) (.op eqF [.op (isiF [.str]) [.var 0], .op (isiF [.str]) [.var 1]]))) (.skip)) (
    .ret (.and_ (.op (isiF [.int]) [.var 0]) (.and_ (.op eqF [.op (isiF [.bool]) [.var 0], .op (isiF [.bool]) [.var 1]]) (.op eqF [.var 0, .var 1])))))
def φ__law_alike : Nat → List D → Option D
  | 0 => fun _ => none
  | t + 1 => runI 2 3 (s__law_alike (φ__law_alike t))
def s_is_memory : S := .seq (.iff (.or_ (.op notF [.op (isiF [.str]) [.var 0]]) (.op notF [.chain leG leG (.cst (.int 1)) (.op lenA [.var 0]) (.cst (.int 9))])) (.ret (.cst (.bl false))) (.skip)) (
    .ret (.op (allF (fun c => decide (c ∈ ((⟨#[48, 49]⟩ : Str)).cps.toList))) [.var 0]))
def φ_is_memory : List D → Option D := runI 1 1 s_is_memory
def s_need_memory : S := .iff (.op notF [.call φ_is_memory [.var 0]]) (.never) (.skip)
def φ_need_memory : List D → Option D := runI 1 1 s_need_memory
def s_need_pair : S := .seq (.exp (.call φ_need_memory [.var 0])) (
    .seq (.exp (.call φ_need_memory [.var 1])) (
    .iff (.op neF [.op lenA [.var 1], .op lenA [.var 0]]) (.never) (.skip)))
def φ_need_pair : List D → Option D := runI 2 2 s_need_pair
def fl_from_counts_1 : S := .forr itemsF [.var 0] (.nm 3) (.seq (.set (.nm 1) (.op addF [.var 1, .ite (.op gtG [.var 3, .var 2]) (.cst (.str [49])) (.cst (.str [48]))])) (
      .set (.nm 2) (.var 3)))
def s_from_counts : S := .seq (.set (.tp [.nm 1, .nm 2]) (.mk tupF1 [.cst (.str []), .cst (.int 0)])) (
    .seq (fl_from_counts_1) (
    .ret (.var 1)))
def φ_from_counts : List D → Option D := runI 1 4 s_from_counts
def lc_counts_1 : Ex := .lc range1F [.op lenA [.var 0]] [1] (.nm 1) [] (.op countF [.op (sl2 slF) [.var 0, .op addF [.var 1, .cst (.int 1)]], .cst (.str [49])])
def s_counts : S := .ret (lc_counts_1)
def φ_counts : List D → Option D := runI 1 2 s_counts
def lc_meet_1 : Ex := .lc zip2F [.call φ_counts [.var 0], .call φ_counts [.var 1]] [2, 3] (.tp [.nm 2, .nm 3]) [] (.op min2F [.var 2, .var 3])
def s_meet : S := .seq (.exp (.call φ_need_pair [.var 0, .var 1])) (
    .ret (.call φ_from_counts [lc_meet_1]))
def φ_meet : List D → Option D := runI 2 4 s_meet
def lc_join_1 : Ex := .lc zip2F [.call φ_counts [.var 0], .call φ_counts [.var 1]] [2, 3] (.tp [.nm 2, .nm 3]) [] (.op max2F [.var 2, .var 3])
def s_join : S := .seq (.exp (.call φ_need_pair [.var 0, .var 1])) (
    .ret (.call φ_from_counts [lc_join_1]))
def φ_join : List D → Option D := runI 2 4 s_join
def s_below : S := .ret (.mk (allZF (fun a b => decide (a ≤ b))) [.call φ_counts [.var 0], .call φ_counts [.var 1]])
def φ_below : List D → Option D := runI 2 2 s_below
def s_is_below : S := .seq (.exp (.call φ_need_pair [.var 0, .var 1])) (
    .ret (.call φ_below [.var 0, .var 1]))
def φ_is_below : List D → Option D := runI 2 2 s_is_below
def s_rank_of : S := .ret (.op sumIF [.call φ_counts [.var 0]])
def φ_rank_of : List D → Option D := runI 1 1 s_rank_of
def s_rank : S := .seq (.exp (.call φ_need_memory [.var 0])) (
    .ret (.call φ_rank_of [.var 0]))
def φ_rank : List D → Option D := runI 1 1 s_rank
def s__law_pick : S := .ret (.op ixA [.var 1, .callO φ__law_taken 0 [.op lenA [.var 1]]])
def φ__law_pick : List D → Option (D × D) := runO 2 2 s__law_pick
def lc__law_on_1 : Ex := .lc range1F [.var 1] [9] (.nm 9) [.op eqF [.op ixA [.var 0, .var 9], .cst (.str [49])]] (.var 9)
def lc__law_on_2 : Ex := .lc range1F [.var 1] [9] (.nm 9) [.op eqF [.op ixA [.var 0, .var 9], .cst (.str [48])]] (.var 9)
def fl__law_on_3 : S := .forr range1F [.var 5] (.nm 6) (.seq (.set (.nm 7) (.ite (.op gtG [.op lenA [.var 3], .var 6]) (.op ixA [.var 3, .var 6]) (.var 1))) (
        .seq (.set (.nm 8) (.ite (.op gtG [.op lenA [.var 4], .op subF [.var 1, .var 5]]) (.op ixA [.var 4, .op subF [.var 1, .var 5]]) (.var 1))) (
        .iff (.op ltG [.var 7, .var 8]) (.app 2 (.mk tupF1 [.var 5, .var 6])) (.skip))))
def fl__law_on_4 : S := .forr range2F [.cst (.int 1), .op addF [.var 1, .cst (.int 1)]] (.nm 5) (fl__law_on_3)
def s__law_on : S := .seq (.parO [1, 2] [false, true] [.op lenA [.var 0], .mk lstF []]) (
    .seq (.par 3 4 (lc__law_on_1) (lc__law_on_2)) (
    .seq (fl__law_on_4) (
    .ret (.var 2))))
def φ__law_on : List D → Option D := runI 1 10 s__law_on
def lc__law_all_1 : Ex := .lc itemsF [.var 1] [3] (.nm 3) [] (.op addF [.var 3, .cst (.str [48])])
def lc__law_all_2 : Ex := .lc itemsF [.var 1] [3] (.nm 3) [] (.op addF [.var 3, .cst (.str [49])])
def lc__law_all_3 : Ex := .lc itemsF [.var 1] [3] (.nm 3) [] (.op addF [.var 3, .cst (.str [48])])
def lc__law_all_4 : Ex := .lc itemsF [.var 1] [3] (.nm 3) [] (.op addF [.var 3, .cst (.str [49])])
def fl__law_all_5 : S := .forr range1F [.var 0] (.nm 2) (.set (.nm 1) (.op addLF [lc__law_all_3, lc__law_all_4]))
def s__law_all : S := .seq (.set (.nm 1) (.mk lstF [.cst (.str [])])) (
    .seq (fl__law_all_5) (
    .ret (.op sortA [.var 1])))
def φ__law_all : List D → Option D := runI 1 4 s__law_all
def lc_law_1 : Ex := .lc range1F [.var 2] [12] (.nm 12) [] (.callO φ__law_pick 1 [.cst (.str [48, 49])])
def lc_law_2 : Ex := .lc range1F [.cst (.int 2)] [11] (.nm 11) [] (.op joinF [.cst (.str []), lc_law_1])
def lc_law_3 : Ex := .lc itemsF [.call φ__law_all [.var 2]] [13] (.nm 13) [] (.mk tupF1 [.var 13, .call φ__law_on [.var 13]])
def lc_law_4 : Ex := .lc itemsF [.call φ__law_all [.var 2]] [13] (.nm 13) [] (.mk tupF1 [.var 13, .call φ__law_on [.var 13]])
def lc_law_5 : Ex := .lc itemsF [.op ixA [.var 5, .var 3]] [14] (.nm 14) [.op (memA true) [.var 14, .op ixA [.var 5, .var 4]]] (.var 14)
def lc_law_6 : Ex := .lc itemsF [.op ixA [.var 5, .var 13]] [14] (.nm 14) [.or_ (.op (memA true) [.var 14, .op ixA [.var 5, .var 3]]) (.op (memA true) [.var 14, .op ixA [.var 5, .var 4]])] (.var 14)
def lc_law_7 : Ex := .lc keysF [.var 5] [13] (.nm 13) [.op eqF [lc_law_6, .mk lstF []]] (.var 13)
def lc_law_8 : Ex := .lc itemsF [.op addF [.op ixA [.var 5, .var 3], .op ixA [.var 5, .var 4]]] [14] (.nm 14) [.op (memA true) [.var 14, .op ixA [.var 5, .var 13]]] (.var 14)
def lc_law_9 : Ex := .lc keysF [.var 5] [13] (.nm 13) [.op eqF [lc_law_8, .mk lstF []]] (.var 13)
def lc_law_10 : Ex := .lc itemsF [.op ixA [.var 5, .var 13]] [14] (.nm 14) [.op (memA true) [.var 14, .op ixA [.var 5, .var 8]]] (.var 14)
def lc_law_11 : Ex := .lc itemsF [.var 6] [13] (.nm 13) [.op neF [lc_law_10, .mk lstF []]] (.var 13)
def lc_law_12 : Ex := .lc itemsF [.op ixA [.var 5, .var 9]] [14] (.nm 14) [.op (memA true) [.var 14, .op ixA [.var 5, .var 13]]] (.var 14)
def lc_law_13 : Ex := .lc itemsF [.var 7] [13] (.nm 13) [.op neF [lc_law_12, .mk lstF []]] (.var 13)
def lc_law_14 : Ex := .lc itemsF [.op ixA [.var 5, .var 3]] [14] (.nm 14) [.op (memA false) [.var 14, .op ixA [.var 5, .var 4]]] (.var 14)
def s_law : S := .seq (.setO 1 (.mk lstF [.var 0, .cst (.int 0), .cst (.int 5510), .cst (.int 0)])) (
    .seq (.set (.nm 2) (.op addF [.cst (.int 1), .callO φ__law_taken 1 [.cst (.int 6)]])) (
    .seq (.set (.tp [.nm 3, .nm 4]) (lc_law_2)) (
    .seq (.set (.nm 5) (.op dictF [lc_law_4])) (
    .seq (.iff (.op notF [.call (φ__law_alike 6) [.call φ_is_below [.var 3, .var 4], .op eqF [lc_law_5, .mk lstF []]]]) (.ret (.cst (.bl false))) (.skip)) (
    .seq (.iff (.op notF [.call (φ__law_alike 6) [.call φ_rank [.var 3], .op lenA [.op ixA [.var 5, .var 3]]]]) (.ret (.cst (.bl false))) (.skip)) (
    .seq (.set (.nm 6) (lc_law_7)) (
    .seq (.set (.nm 7) (lc_law_9)) (
    .seq (.set (.tp [.nm 8, .nm 9]) (.mk tupF1 [.call φ_meet [.var 3, .var 4], .call φ_join [.var 3, .var 4]])) (
    .seq (.iff (.or_ (.op (memA true) [.var 8, .var 6]) (.op (memA true) [.var 9, .var 7])) (.ret (.cst (.bl false))) (.skip)) (
    .seq (.iff (.op neF [lc_law_11, .mk lstF []]) (.ret (.cst (.bl false))) (.skip)) (
    .seq (.iff (.op neF [lc_law_13, .mk lstF []]) (.ret (.cst (.bl false))) (.skip)) (
    .seq (.set (.nm 10) (lc_law_14)) (
    .ret (.and_ (.op eqF [.op ssF [.op addF [.op ixA [.var 5, .var 3], .op ixA [.var 5, .var 4]]], .op ixA [.var 5, .var 9]]) (.op eqF [.var 10, .op ixA [.var 5, .var 8]])))))))))))))))
def φ_law : List D → Option D := runI 1 15 s_law
end Mi

namespace Mi
open PySem PySem.Spec PyProof.Rows L2 GxR
/-! ### alike -/
mutual
/-- plain data, nested no deeper than t -/
def alk : Nat → D → Bool
  | _, .non => true
  | _, .bl _ => true
  | _, .int _ => true
  | _, .str _ => true
  | 0, .tup _ => false
  | t + 1, .tup l => decide (l.length ≤ 16000000) && alkL t l
  | 0, .lst _ => false
  | t + 1, .lst l => decide (l.length ≤ 16000000) && alkL t l
  | _, .dic _ _ => false
  | _, .scr _ => false
def alkL : Nat → List D → Bool
  | _, [] => true
  | t, d :: ds => alk t d && alkL t ds
end
theorem alkL_get : ∀ {t : Nat} {l : List D} {i : Nat} {d : D}, alkL t l = true → l[i]? = some d → alk t d = true
  | _, [], i, d, _, e => by simp at e
  | t, a :: l, 0, d, h, e => by
    unfold alkL at h
    simp only [List.getElem?_cons_zero, Option.some.injEq] at e
    subst e
    exact (Bool.and_eq_true_iff.mp h).1
  | t, a :: l, i + 1, d, h, e => by
    unfold alkL at h
    exact alkL_get (Bool.and_eq_true_iff.mp h).2 (by simpa using e)
theorem flatMap_nil {α β : Type} (l : List α) : l.flatMap (fun _ => ([] : List β)) = [] := by
  induction l with
  | nil => rfl
  | cons a l ih => rw [List.flatMap_cons, ih]; rfl
theorem alike_lc {φ : List D → Option D} {a b : D} {l : List D} (ha : ∀ i, ixA [a, .int i] = atI l i) (hb : ∀ i, ixA [b, .int i] = atI l i) (hl : lenA [b] = some (.int l.length)) (hz : l.length ≤ 16000000) (h : ∀ d ∈ l, φ [d, d] = some (.bl true)) :
    ev (lc__law_alike_1 φ) [.im a, .im b, .un] = some (.pers (.lst []), [.im a, .im b, .un]) := by
  have key := lcLoop_map (f := lcTurn (.nm 2) [2] (fun e => evt [.op notF [.call φ [.op ixA [.var 0, .var 2], .op ixA [.var 1, .var 2]]]] e) (fun e => ev (.var 2) e)) (fun i : Nat => D.int ((0 : Int) + (i : Int) * 1)) (fun _ => []) [.im a, .im b, .un] (List.range l.length) (fun i hi => by
    have hi' := List.mem_range.mp hi
    have e0 : ((0 : Int) + (i : Int) * 1) = (i : Int) := by omega
    have e1 : atI l (i : Int) = some l[i] := by rw [atI_nat, List.getElem?_eq_getElem hi']
    have e2 := h l[i] (List.getElem_mem hi')
    rw [e0]
    simp [lcTurn, wipeE, ha, hb, e1, e2, notF, ex, ev, evs, evt, gets, settles, Rv.get, Rv.settle, B.data, B.isOw, ownAt, lstAt, truth, Tg.bind, Tg.binds, runI, runO, initI, initO, outO])
  rw [flatMap_nil] at key
  refine (ev_lc_of (ds := [.int l.length]) (e1 := [.im a, .im b, .un]) (e2 := [.im a, .im b, .un]) (e7 := [.im a, .im b, .un]) (rs := [.pers (.int l.length)]) (ys := []) ?_ ?_ (items := rangeL 0 l.length 1) ?_ ?_ key (by simp))
  · simp [hl, ex, ev, evs, evt, gets, settles, Rv.get, Rv.settle, B.data, B.isOw, ownAt, lstAt, truth, Tg.bind, Tg.binds, runI, runO, initI, initO, outO]
  · simp [ex, ev, evs, evt, gets, settles, Rv.get, Rv.settle, B.data, B.isOw, ownAt, lstAt, truth, Tg.bind, Tg.binds, runI, runO, initI, initO, outO]
  · unfold range1F
    simp only
    rw [if_pos (by omega)]
    rfl
  · simp [softE, B.isOw]
theorem alike_seq {φ : List D → Option D} {l : List D} (hz : l.length ≤ 16000000) (h : ∀ d ∈ l, φ [d, d] = some (.bl true)) : runI 2 3 (s__law_alike φ) [.tup l, .tup l] = some (.bl true) ∧ runI 2 3 (s__law_alike φ) [.lst l, .lst l] = some (.bl true) := by
  have k1 := alike_lc (φ := φ) (a := .tup l) (b := .tup l) (fun _ => rfl) (fun _ => rfl) rfl hz h
  have k2 := alike_lc (φ := φ) (a := .lst l) (b := .lst l) (fun _ => rfl) (fun _ => rfl) rfl hz h
  unfold s__law_alike
  obtain ⟨L, hL⟩ : ∃ L, L = lc__law_alike_1 φ := ⟨_, rfl⟩
  rw [← hL] at k1 k2 ⊢
  constructor
  · simp [isiF, isT, notF, neF, scl, D.eqv, lenA, lenF, k1, lstF, eqF, D.shp, D.shpL, D.eqvL, ex, ev, evs, evt, gets, settles, Rv.get, Rv.settle, B.data, B.isOw, ownAt, lstAt, truth, Tg.bind, Tg.binds, runI, runO, initI, initO, outO]
  · simp [isiF, isT, notF, neF, scl, D.eqv, lenA, lenF, k2, lstF, eqF, D.shp, D.shpL, D.eqvL, ex, ev, evs, evt, gets, settles, Rv.get, Rv.settle, B.data, B.isOw, ownAt, lstAt, truth, Tg.bind, Tg.binds, runI, runO, initI, initO, outO]
theorem alike_same : ∀ (t : Nat) (d : D), alk t d = true → φ__law_alike (t + 1) [d, d] = some (.bl true)
  | t, .non, _ => by simp [φ__law_alike, s__law_alike, isiF, isT, isNF, notF, eqF, scl, D.eqv, ex, ev, evs, evt, gets, settles, Rv.get, Rv.settle, B.data, B.isOw, ownAt, lstAt, truth, Tg.bind, Tg.binds, runI, runO, initI, initO, outO]
  | t, .bl b, _ => by cases b <;> simp [φ__law_alike, s__law_alike, isiF, isT, isNF, notF, eqF, scl, D.eqv, ex, ev, evs, evt, gets, settles, Rv.get, Rv.settle, B.data, B.isOw, ownAt, lstAt, truth, Tg.bind, Tg.binds, runI, runO, initI, initO, outO]
  | t, .int i, _ => by simp [φ__law_alike, s__law_alike, isiF, isT, isNF, notF, eqF, scl, D.eqv, ex, ev, evs, evt, gets, settles, Rv.get, Rv.settle, B.data, B.isOw, ownAt, lstAt, truth, Tg.bind, Tg.binds, runI, runO, initI, initO, outO]
  | t, .str s, _ => by simp [φ__law_alike, s__law_alike, isiF, isT, isNF, notF, eqF, scl, D.eqv, ex, ev, evs, evt, gets, settles, Rv.get, Rv.settle, B.data, B.isOw, ownAt, lstAt, truth, Tg.bind, Tg.binds, runI, runO, initI, initO, outO]
  | 0, .tup l, h => by unfold alk at h; cases h
  | t + 1, .tup l, h => by
    unfold alk at h
    obtain ⟨h1, h2⟩ := Bool.and_eq_true_iff.mp h
    refine (alike_seq (of_decide_eq_true h1) fun d hd => ?_).1
    obtain ⟨i, hi, e⟩ := List.getElem_of_mem hd
    exact alike_same t d (alkL_get h2 (by rw [List.getElem?_eq_getElem hi, e]))
  | 0, .lst l, h => by unfold alk at h; cases h
  | t + 1, .lst l, h => by
    unfold alk at h
    obtain ⟨h1, h2⟩ := Bool.and_eq_true_iff.mp h
    refine (alike_seq (of_decide_eq_true h1) fun d hd => ?_).2
    obtain ⟨i, hi, e⟩ := List.getElem_of_mem hd
    exact alike_same t d (alkL_get h2 (by rw [List.getElem?_eq_getElem hi, e]))
  | _, .dic _ _, h => by unfold alk at h; cases h
  | _, .scr _, h => by unfold alk at h; cases h
namespace T
def talike {α : Type} [DecidableEq α] (e : α → D) (a b : α) : Option Bool := if alk 5 (e a) = true ∧ a = b then some true else none
theorem talike_ok {α : Type} [DecidableEq α] {e : α → D} {a b : α} {k : Bool} (h : talike e a b = some k) : φ__law_alike 6 [e a, e b] = some (eBl k) := by
  unfold talike at h
  by_cases hz : alk 5 (e a) = true ∧ a = b
  · rw [if_pos hz] at h
    cases h
    rw [← hz.2]
    exact alike_same 5 _ hz.1
  · rw [if_neg hz] at h
    cases h
end T
end Mi

namespace Mi.T
open PySem PySem.Spec PyProof.Rows L2 GxR
def t__law_taken (row_ : (List Int) × Int × Int × Int) (many_ : Int) : Option (Int × ((List Int) × Int × Int × Int)) :=
  if (decide (0 < row_.2.2.2)) = true then (
    (ifmod row_.2.2.2 many_).bind fun r1 =>
    (ifdiv row_.2.2.2 many_).bind fun d2 =>
    (some (row_.1, row_.2.1, row_.2.2.1, d2)).bind fun row3 =>
    some (r1, row3))
  else (
    (some (row_.1, row_.2.1 + 1, row_.2.2.1, row_.2.2.2)).bind fun row4 =>
    if (decide ((row4.1.length : Int) < row4.2.1)) = true then (
      (some (row4.1, row4.2.1, Int.fmod ((row4.2.2.1 * 48271) + 11) 2147483647, row4.2.2.2)).bind fun row5 =>
      (ifmod (Int.fdiv row5.2.2.1 7) many_).bind fun r6 =>
      some (r6, row5))
    else (
      (atI row4.1 (row4.2.1 - 1)).bind fun x7 =>
      (some (row4.1, row4.2.1, Int.fmod (((row4.2.2.1 * 48271) + x7) + 11) 2147483647, row4.2.2.2)).bind fun row8 =>
      (if (decide (((10 : Int) ^ (18 : Nat)) ≤ x7)) = true then (
        (ifdiv x7 many_).bind fun d10 =>
        (some (row8.1, row8.2.1, row8.2.2.1, d10)).bind fun row11 =>
        some row11)
      else (
        some row8)).bind fun s9 =>
      (ifmod x7 many_).bind fun r12 =>
      some (r12, s9)))
theorem t__law_taken_ok {row_ : (List Int) × Int × Int × Int} {many_ : Int} {r9 : Int × ((List Int) × Int × Int × Int)} (h : t__law_taken row_ many_ = some r9) : φ__law_taken [(h4 eScr eInt eInt eInt) row_, eInt many_] = some (eInt r9.1, (h4 eScr eInt eInt eInt) r9.2) := by
  unfold t__law_taken at h
  unfold φ__law_taken
  show runO _ _ _ _ = _
  unfold s__law_taken
  refine run_O (enc := fun (r9 : Int × ((List Int) × Int × Int × Int)) => eInt r9.1) (es := fun (r9 : Int × ((List Int) × Int × Int × Int)) => (h4 eScr eInt eInt eInt) r9.2) (w := r9) (p := [.ex (.io ((h4 eScr eInt eInt eInt) row_)), .ex (.im (eInt many_)), .ex .un, .ex .un]) rfl ?_ rfl
  refine ifS h (fun k h => ?_) (fun k h => ?_)
  · refine t_sifT (tk (tst_of (ev_op (d := eBl (decide (0 < row_.2.2.2))) (evs_c (ev_op (d := eInt row_.2.2.2) (evs_c (ev_io rfl) (evs_c ev_cst evs_n)) rfl rfl) (evs_c ev_cst evs_n)) rfl rfl) rfl rfl) k) ?_
    refine fin_seqR (P' := fun (_ : Unit) => []) ?_
    refine bnd h fun r1 q_r1 h => ?_
    refine fin_seq (nx_set (ev_op (d := eInt r1) (evs_c (ev_op (d := eInt row_.2.2.2) (evs_c (ev_op (d := eInt row_.2.2.2) (evs_c (ev_io rfl) (evs_c ev_cst evs_n)) rfl rfl) evs_n) rfl rfl) (evs_c (ev_v rfl) evs_n)) rfl (ifmod_ok q_r1)) rfl rfl) ?_
    refine fin_to (p' := [.ex (.io ((h4 eScr eInt eInt eInt) row_)), .ex (.im (eInt many_)), .ex (.im (eInt r1)), .ex .un]) rfl ?_
    refine bnd h fun d2 q_d2 h => ?_
    refine bnd h fun row3 q_row3 h => ?_
    refine fin_seq (nx_subI (o' := (h4 eScr eInt eInt eInt) row3) rfl (evs_c (ev_op (d := eInt d2) (evs_c (ev_op (d := eInt row_.2.2.2) (evs_c (ev_io rfl) (evs_c ev_cst evs_n)) rfl rfl) (evs_c (ev_v rfl) evs_n)) rfl (ifdiv_ok q_d2)) (evs_c ev_cst evs_n)) rfl rfl (by have e := Option.some.inj q_row3; subst e; rfl)) ?_
    refine fin_to (p' := [.ex (.io ((h4 eScr eInt eInt eInt) row3)), .ex (.im (eInt many_)), .ex (.im (eInt r1)), .ex .un]) rfl ?_
    exact fin_retE (enc := fun (r9 : Int × ((List Int) × Int × Int × Int)) => eInt r9.1) (v := (r1, row3)) (ev_v rfl) rfl rfl h (fun e m => out_O m)
  · refine t_sifF (tk (tst_of (ev_op (d := eBl (decide (0 < row_.2.2.2))) (evs_c (ev_op (d := eInt row_.2.2.2) (evs_c (ev_io rfl) (evs_c ev_cst evs_n)) rfl rfl) (evs_c ev_cst evs_n)) rfl rfl) rfl rfl) k) ?_
    refine fin_skip ?_
    refine bnd h fun row4 q_row4 h => ?_
    refine fin_seq (nx_subI (o' := (h4 eScr eInt eInt eInt) row4) rfl (evs_c (ev_op (d := eInt (row_.2.1 + 1)) (evs_c (ev_op (d := eInt row_.2.1) (evs_c (ev_io rfl) (evs_c ev_cst evs_n)) rfl rfl) (evs_c ev_cst evs_n)) rfl rfl) (evs_c ev_cst evs_n)) rfl rfl (by have e := Option.some.inj q_row4; subst e; rfl)) ?_
    refine fin_to (p' := [.ex (.io ((h4 eScr eInt eInt eInt) row4)), .ex (.im (eInt many_)), .ex .un, .ex .un]) rfl ?_
    refine ifS h (fun k h => ?_) (fun k h => ?_)
    · refine t_sifT (tk (tst_of (ev_op (d := eBl (decide ((row4.1.length : Int) < row4.2.1))) (evs_c (ev_op (d := eInt row4.2.1) (evs_c (ev_io rfl) (evs_c ev_cst evs_n)) rfl rfl) (evs_c (ev_op (d := eInt (row4.1.length : Int)) (evs_c (ev_op (d := eScr row4.1) (evs_c (ev_io rfl) (evs_c ev_cst evs_n)) rfl rfl) evs_n) rfl rfl) evs_n)) rfl rfl) rfl rfl) k) ?_
      refine fin_seqR (P' := fun (_ : Unit) => []) ?_
      refine bnd h fun row5 q_row5 h => ?_
      refine fin_seq (nx_subI (o' := (h4 eScr eInt eInt eInt) row5) rfl (evs_c (ev_op (d := eInt (Int.fmod ((row4.2.2.1 * 48271) + 11) 2147483647)) (evs_c (ev_op (d := eInt ((row4.2.2.1 * 48271) + 11)) (evs_c (ev_op (d := eInt ((row4.2.2.1 * 48271) + 11)) (evs_c (ev_op (d := eInt (row4.2.2.1 * 48271)) (evs_c (ev_op (d := eInt row4.2.2.1) (evs_c (ev_io rfl) (evs_c ev_cst evs_n)) rfl rfl) (evs_c ev_cst evs_n)) rfl (mul_r (by decide))) (evs_c ev_cst evs_n)) rfl rfl) evs_n) rfl rfl) (evs_c ev_cst evs_n)) rfl (fmod_r (by decide))) (evs_c ev_cst evs_n)) rfl rfl (by have e := Option.some.inj q_row5; subst e; rfl)) ?_
      refine fin_to (p' := [.ex (.io ((h4 eScr eInt eInt eInt) row5)), .ex (.im (eInt many_)), .ex .un, .ex .un]) rfl ?_
      refine bnd h fun r6 q_r6 h => ?_
      exact fin_retE (enc := fun (r9 : Int × ((List Int) × Int × Int × Int)) => eInt r9.1) (v := (r6, row5)) (ev_op (d := eInt r6) (evs_c (ev_op (d := eInt (Int.fdiv row5.2.2.1 7)) (evs_c (ev_op (d := eInt (Int.fdiv row5.2.2.1 7)) (evs_c (ev_op (d := eInt row5.2.2.1) (evs_c (ev_io rfl) (evs_c ev_cst evs_n)) rfl rfl) (evs_c ev_cst evs_n)) rfl (fdiv_r (by decide))) evs_n) rfl rfl) (evs_c (ev_v rfl) evs_n)) rfl (ifmod_ok q_r6)) rfl rfl h (fun e m => out_O m)
    · refine t_sifF (tk (tst_of (ev_op (d := eBl (decide ((row4.1.length : Int) < row4.2.1))) (evs_c (ev_op (d := eInt row4.2.1) (evs_c (ev_io rfl) (evs_c ev_cst evs_n)) rfl rfl) (evs_c (ev_op (d := eInt (row4.1.length : Int)) (evs_c (ev_op (d := eScr row4.1) (evs_c (ev_io rfl) (evs_c ev_cst evs_n)) rfl rfl) evs_n) rfl rfl) evs_n)) rfl rfl) rfl rfl) k) ?_
      refine fin_skip ?_
      refine bnd h fun x7 q_x7 h => ?_
      refine fin_seq (nx_set (ev_op (d := eInt x7) (evs_c (ev_op (d := eScr row4.1) (evs_c (ev_io rfl) (evs_c ev_cst evs_n)) rfl rfl) (evs_c (ev_op (d := eInt (row4.2.1 - 1)) (evs_c (ev_op (d := eInt row4.2.1) (evs_c (ev_io rfl) (evs_c ev_cst evs_n)) rfl rfl) (evs_c ev_cst evs_n)) rfl rfl) evs_n)) rfl (ix_scr q_x7)) rfl rfl) ?_
      refine fin_to (p' := [.ex (.io ((h4 eScr eInt eInt eInt) row4)), .ex (.im (eInt many_)), .ex .un, .ex (.im (eInt x7))]) rfl ?_
      refine bnd h fun row8 q_row8 h => ?_
      refine fin_seq (nx_subI (o' := (h4 eScr eInt eInt eInt) row8) rfl (evs_c (ev_op (d := eInt (Int.fmod (((row4.2.2.1 * 48271) + x7) + 11) 2147483647)) (evs_c (ev_op (d := eInt (((row4.2.2.1 * 48271) + x7) + 11)) (evs_c (ev_op (d := eInt (((row4.2.2.1 * 48271) + x7) + 11)) (evs_c (ev_op (d := eInt ((row4.2.2.1 * 48271) + x7)) (evs_c (ev_op (d := eInt (row4.2.2.1 * 48271)) (evs_c (ev_op (d := eInt row4.2.2.1) (evs_c (ev_io rfl) (evs_c ev_cst evs_n)) rfl rfl) (evs_c ev_cst evs_n)) rfl (mul_r (by decide))) (evs_c (ev_v rfl) evs_n)) rfl rfl) (evs_c ev_cst evs_n)) rfl rfl) evs_n) rfl rfl) (evs_c ev_cst evs_n)) rfl (fmod_r (by decide))) (evs_c ev_cst evs_n)) rfl rfl (by have e := Option.some.inj q_row8; subst e; rfl)) ?_
      refine fin_to (p' := [.ex (.io ((h4 eScr eInt eInt eInt) row8)), .ex (.im (eInt many_)), .ex .un, .ex (.im (eInt x7))]) rfl ?_
      refine bnd h fun s9 q_s9 h => ?_
      refine fin_seqJ (st := s9) (P' := fun (s9 : (List Int) × Int × Int × Int) => [.ex (.io ((h4 eScr eInt eInt eInt) s9)), .ex (.im (eInt many_)), .ex .un, .ex (.im (eInt x7))]) ?_ ?_
      · refine ifS q_s9 (fun k h => ?_) (fun k h => ?_)
        · refine t_ifT (tk (tst_of (ev_op (d := eBl (decide (((10 : Int) ^ (18 : Nat)) ≤ x7))) (evs_c (ev_v rfl) (evs_c (ev_op (d := eInt ((10 : Int) ^ (18 : Nat))) (evs_c ev_cst (evs_c ev_cst evs_n)) rfl rfl) evs_n)) rfl rfl) rfl rfl) k) ?_
          refine bnd h fun d10 q_d10 h => ?_
          refine bnd h fun row11 q_row11 h => ?_
          exact fin_nxE [0, 0, 0, 0] (v := row11) (nx_subI (o' := (h4 eScr eInt eInt eInt) row11) rfl (evs_c (ev_op (d := eInt d10) (evs_c (ev_v rfl) (evs_c (ev_v rfl) evs_n)) rfl (ifdiv_ok q_d10)) (evs_c ev_cst evs_n)) rfl rfl (by have e := Option.some.inj q_row11; subst e; rfl)) rfl rfl h
        · refine t_ifF (tk (tst_of (ev_op (d := eBl (decide (((10 : Int) ^ (18 : Nat)) ≤ x7))) (evs_c (ev_v rfl) (evs_c (ev_op (d := eInt ((10 : Int) ^ (18 : Nat))) (evs_c ev_cst (evs_c ev_cst evs_n)) rfl rfl) evs_n)) rfl rfl) rfl rfl) k) ?_
          exact fin_nxE [0, 0, 0, 0] (v := row8) nx_skip rfl rfl h
      · refine bnd h fun r12 q_r12 h => ?_
        exact fin_retE (enc := fun (r9 : Int × ((List Int) × Int × Int × Int)) => eInt r9.1) (v := (r12, s9)) (ev_op (d := eInt r12) (evs_c (ev_op (d := eInt x7) (evs_c (ev_v rfl) evs_n) rfl rfl) (evs_c (ev_v rfl) evs_n)) rfl (ifmod_ok q_r12)) rfl rfl h (fun e m => out_O m)
def t__law_pick_s (row_ : (List Int) × Int × Int × Int) (things_ : List Nat) : Option ((List Nat) × ((List Int) × Int × Int × Int)) :=
  (slen things_).bind fun n1 =>
  (t__law_taken row_ n1).bind fun w2 =>
  (sat things_ w2.1).bind fun x3 =>
  some (x3, w2.2)
theorem t__law_pick_s_ok {row_ : (List Int) × Int × Int × Int} {things_ : List Nat} {r9 : (List Nat) × ((List Int) × Int × Int × Int)} (h : t__law_pick_s row_ things_ = some r9) : φ__law_pick [(h4 eScr eInt eInt eInt) row_, eStr things_] = some (eStr r9.1, (h4 eScr eInt eInt eInt) r9.2) := by
  unfold t__law_pick_s at h
  unfold φ__law_pick
  show runO _ _ _ _ = _
  unfold s__law_pick
  refine run_O (enc := fun (r9 : (List Nat) × ((List Int) × Int × Int × Int)) => eStr r9.1) (es := fun (r9 : (List Nat) × ((List Int) × Int × Int × Int)) => (h4 eScr eInt eInt eInt) r9.2) (w := r9) (p := [.ex (.io ((h4 eScr eInt eInt eInt) row_)), .ex (.im (eStr things_))]) rfl ?_ rfl
  refine bnd h fun n1 q_n1 h => ?_
  refine bnd h fun w2 q_w2 h => ?_
  refine bnd h fun x3 q_x3 h => ?_
  exact fin_retE (enc := fun (r9 : (List Nat) × ((List Int) × Int × Int × Int)) => eStr r9.1) (v := (x3, w2.2)) (ev_op (d := eStr x3) (evs_c (ev_v rfl) (evs_c (ev_callOi (d := eInt w2.1) (d1 := (h4 eScr eInt eInt eInt) w2.2) rfl (evs_c (ev_op (d := eInt n1) (evs_c (ev_v rfl) evs_n) rfl (slen_ok q_n1)) evs_n) rfl rfl (t__law_taken_ok q_w2)) evs_n)) rfl (sat_ok q_x3)) rfl rfl h (fun e m => out_O m)
def t__law_all (span_ : Int) : Option (List (List Nat)) :=
  (some [[]]).bind fun found1 =>
  (trange1 span_).bind fun r2 =>
  (fld (fun (b4 : Int) (s3 : List (List Nat)) =>
      (tcmp (fun (b5 : List Nat) => (scat b5 [48]).bind fun s6 => some [s6]) s3).bind fun l7 =>
      (tcmp (fun (b8 : List Nat) => (scat b8 [49]).bind fun s9 => some [s9]) s3).bind fun l10 =>
      (lcat l7 l10).bind fun l11 =>
      some l11) r2 found1).bind fun s12 =>
  (tsort eStr s12).bind fun l13 =>
  some l13
theorem t__law_all_ok {span_ : Int} {r9 : List (List Nat)} (h : t__law_all span_ = some r9) : φ__law_all [eInt span_] = some ((eLst eStr) r9) := by
  unfold t__law_all at h
  unfold φ__law_all
  show runI _ _ _ _ = _
  unfold s__law_all
  refine run_I (p := [.ex (.im (eInt span_)), .ex .un, .ex .un, .ex .un]) rfl ?_ rfl
  refine bnd h fun found1 q_found1 h => ?_
  refine fin_seq (nx_set (ev_eq (enc := (eLst eStr)) (ev_mk (d := (eLst eStr) [[]]) (evs_c ev_cst evs_n) rfl rfl) q_found1) rfl rfl) ?_
  refine fin_to (p' := [.ex (.im (eInt span_)), .ex (.im ((eLst eStr) found1)), .ex .un, .ex .un]) rfl ?_
  refine bnd h fun r2 q_r2 h => ?_
  refine bnd h fun s12 q_s12 h => ?_
  refine fin_seq (st_for (I := eInt) (P := fun (s3 : List (List Nat)) => [.ex (.im (eInt span_)), .ex (.im ((eLst eStr) s3)), .soft, .ex .un]) (st := found1) (it_of (g := range1F) (evs_c (ev_v rfl) evs_n) rfl (trange1_ok q_r2)) [0, 0, 2, 0] rfl rfl (fun b4 s3 st9 h => by
      refine ⟨_, rfl, ?_⟩
      refine fin_to (p' := [.ex (.im (eInt span_)), .ex (.im ((eLst eStr) s3)), .ex (.im (eInt b4)), .ex .un]) rfl ?_
      refine bnd h fun l7 q_l7 h => ?_
      refine bnd h fun l10 q_l10 h => ?_
      refine bnd h fun l11 q_l11 h => ?_
      exact fin_nxE [0, 0, 2, 0] (v := l11) (nx_set (ev_op (d := (eLst eStr) l11) (evs_c (ev_lcU (I := eStr) (O := eStr) (pw := [.ex (.im (eInt span_)), .ex (.im ((eLst eStr) s3)), .ex (.im (eInt b4)), .ex .un]) (it_of (g := itemsF) (evs_c (ev_v rfl) evs_n) rfl it_lst) rfl rfl (fun b5 ys h => by
            refine bnd h fun s6 q_s6 h => ?_
            cases h
            exact turnK (d1 := eStr s6) rfl evt_n (ev_op (d := eStr s6) (evs_c (ev_v rfl) (evs_c ev_cst evs_n)) rfl (scat_ok q_s6)) rfl rfl) q_l7 rfl) (evs_c (ev_lcU (I := eStr) (O := eStr) (pw := [.ex (.im (eInt span_)), .ex (.im ((eLst eStr) s3)), .ex (.im (eInt b4)), .ex .un]) (it_of (g := itemsF) (evs_c (ev_v rfl) evs_n) rfl it_lst) rfl rfl (fun b8 ys h => by
            refine bnd h fun s9 q_s9 h => ?_
            cases h
            exact turnK (d1 := eStr s9) rfl evt_n (ev_op (d := eStr s9) (evs_c (ev_v rfl) (evs_c ev_cst evs_n)) rfl (scat_ok q_s9)) rfl rfl) q_l10 rfl) evs_n)) rfl (lcatL_ok q_l11)) rfl rfl) rfl rfl h) q_s12) ?_
  refine fin_to (p' := [.ex (.im (eInt span_)), .ex (.im ((eLst eStr) s12)), .soft, .ex .un]) rfl ?_
  refine bnd h fun l13 q_l13 h => ?_
  exact fin_retE (enc := (eLst eStr)) (v := l13) (ev_op (d := (eLst eStr) l13) (evs_c (ev_v rfl) evs_n) rfl (tsort_ok q_l13)) rfl rfl h (fun _ _ => trivial)
def t__law_on (memory_here_ : List Nat) : Option (List (Int × Int)) :=
  (slen memory_here_).bind fun n1 =>
  (some ([] : List (Int × Int))).bind fun found2 =>
  (trange1 n1).bind fun r3 =>
  (tcmp (fun (b4 : Int) => (sat memory_here_ b4).bind fun x5 => if (x5 == [49]) = true then (some [b4]) else some []) r3).bind fun l6 =>
  (trange1 n1).bind fun r7 =>
  (tcmp (fun (b8 : Int) => (sat memory_here_ b8).bind fun x9 => if (x9 == [48]) = true then (some [b8]) else some []) r7).bind fun l10 =>
  (trange2 1 (n1 + 1)).bind fun r11 =>
  (fld (fun (b13 : Int) (s12 : List (Int × Int)) =>
      (trange1 b13).bind fun r14 =>
      (fld (fun (b16 : Int) (s15 : List (Int × Int)) =>
          (if (decide (b16 < (l6.length : Int))) = true then ((atI l6 b16).bind fun x17 => some x17) else (some n1)).bind fun c18 =>
          (if (decide ((n1 - b13) < (l10.length : Int))) = true then ((atI l10 (n1 - b13)).bind fun x19 => some x19) else (some n1)).bind fun c20 =>
          if (decide (c18 < c20)) = true then (
            (tapp s15 (b13, b16)).bind fun found21 =>
            some found21)
          else (
            some s15)) r14 s12).bind fun s22 =>
      some s22) r11 found2).bind fun s23 =>
  some s23
theorem t__law_on_ok {memory_here_ : List Nat} {r9 : List (Int × Int)} (h : t__law_on memory_here_ = some r9) : φ__law_on [eStr memory_here_] = some ((eLst (e2 eInt eInt)) r9) := by
  unfold t__law_on at h
  unfold φ__law_on
  show runI _ _ _ _ = _
  unfold s__law_on
  refine run_I (p := [.ex (.im (eStr memory_here_)), .ex .un, .ex .un, .ex .un, .ex .un, .ex .un, .ex .un, .ex .un, .ex .un, .ex .un]) rfl ?_ rfl
  refine bnd h fun n1 q_n1 h => ?_
  refine bnd h fun found2 q_found2 h => ?_
  refine fin_seq (nx_parO (evo_c (ev_op (d := eInt n1) (evs_c (ev_v rfl) evs_n) rfl (slen_ok q_n1)) rfl (evo_o (ev_eq (enc := (eLst (e2 eInt eInt))) (ev_mk (d := (eLst (e2 eInt eInt)) ([] : List (Int × Int))) evs_n rfl rfl) q_found2) evo_n)) rfl) ?_
  refine fin_to (p' := [.ex (.im (eStr memory_here_)), .ex (.im (eInt n1)), .ex (.ow ((eLst (e2 eInt eInt)) found2)), .ex .un, .ex .un, .ex .un, .ex .un, .ex .un, .ex .un, .ex .un]) rfl ?_
  refine bnd h fun r3 q_r3 h => ?_
  refine bnd h fun l6 q_l6 h => ?_
  refine bnd h fun r7 q_r7 h => ?_
  refine bnd h fun l10 q_l10 h => ?_
  refine fin_seq (nx_par (evs_c (ev_lcU (I := eInt) (O := eInt) (pw := [.ex (.im (eStr memory_here_)), .ex (.im (eInt n1)), .ex (.ow ((eLst (e2 eInt eInt)) found2)), .ex .un, .ex .un, .ex .un, .ex .un, .ex .un, .ex .un, .ex .un]) (it_of (g := range1F) (evs_c (ev_v rfl) evs_n) rfl (trange1_ok q_r3)) rfl rfl (fun b4 ys h => by
        refine bnd h fun x5 q_x5 h => ?_
        refine ifS h (fun k h => ?_) (fun k h => ?_)
        · cases h
          exact turnK (d1 := eInt b4) rfl (evt_t (tk (tst_of (ev_op (d := eBl (x5 == [49])) (evs_c (ev_op (d := eStr x5) (evs_c (ev_v rfl) (evs_c (ev_v rfl) evs_n)) rfl (sat_ok q_x5)) (evs_c ev_cst evs_n)) rfl (eq_sc eqe_str (x := x5) (y := [49]) rfl)) rfl rfl) k)) (ev_v rfl) rfl rfl
        · cases h
          exact turnD rfl (evt_t (tk (tst_of (ev_op (d := eBl (x5 == [49])) (evs_c (ev_op (d := eStr x5) (evs_c (ev_v rfl) (evs_c (ev_v rfl) evs_n)) rfl (sat_ok q_x5)) (evs_c ev_cst evs_n)) rfl (eq_sc eqe_str (x := x5) (y := [49]) rfl)) rfl rfl) k)) rfl) q_l6 rfl) (evs_c (ev_lcU (I := eInt) (O := eInt) (pw := [.ex (.im (eStr memory_here_)), .ex (.im (eInt n1)), .ex (.ow ((eLst (e2 eInt eInt)) found2)), .ex .un, .ex .un, .ex .un, .ex .un, .ex .un, .ex .un, .ex .un]) (it_of (g := range1F) (evs_c (ev_v rfl) evs_n) rfl (trange1_ok q_r7)) rfl rfl (fun b8 ys h => by
        refine bnd h fun x9 q_x9 h => ?_
        refine ifS h (fun k h => ?_) (fun k h => ?_)
        · cases h
          exact turnK (d1 := eInt b8) rfl (evt_t (tk (tst_of (ev_op (d := eBl (x9 == [48])) (evs_c (ev_op (d := eStr x9) (evs_c (ev_v rfl) (evs_c (ev_v rfl) evs_n)) rfl (sat_ok q_x9)) (evs_c ev_cst evs_n)) rfl (eq_sc eqe_str (x := x9) (y := [48]) rfl)) rfl rfl) k)) (ev_v rfl) rfl rfl
        · cases h
          exact turnD rfl (evt_t (tk (tst_of (ev_op (d := eBl (x9 == [48])) (evs_c (ev_op (d := eStr x9) (evs_c (ev_v rfl) (evs_c (ev_v rfl) evs_n)) rfl (sat_ok q_x9)) (evs_c ev_cst evs_n)) rfl (eq_sc eqe_str (x := x9) (y := [48]) rfl)) rfl rfl) k)) rfl) q_l10 rfl) evs_n)) rfl rfl) ?_
  refine fin_to (p' := [.ex (.im (eStr memory_here_)), .ex (.im (eInt n1)), .ex (.ow ((eLst (e2 eInt eInt)) found2)), .ex (.im ((eLst eInt) l6)), .ex (.im ((eLst eInt) l10)), .ex .un, .ex .un, .ex .un, .ex .un, .ex .un]) rfl ?_
  refine bnd h fun r11 q_r11 h => ?_
  refine bnd h fun s23 q_s23 h => ?_
  refine fin_seq (st_for (I := eInt) (P := fun (s12 : List (Int × Int)) => [.ex (.im (eStr memory_here_)), .ex (.im (eInt n1)), .ex (.ow ((eLst (e2 eInt eInt)) s12)), .ex (.im ((eLst eInt) l6)), .ex (.im ((eLst eInt) l10)), .soft, .soft, .soft, .soft, .ex .un]) (st := found2) (it_of (g := range2F) (evs_c ev_cst (evs_c (ev_op (d := eInt (n1 + 1)) (evs_c (ev_v rfl) (evs_c ev_cst evs_n)) rfl rfl) evs_n)) rfl (trange2_ok q_r11)) [0, 0, 0, 0, 0, 2, 2, 2, 2, 0] rfl rfl (fun b13 s12 st9 h => by
      refine ⟨_, rfl, ?_⟩
      refine fin_to (p' := [.ex (.im (eStr memory_here_)), .ex (.im (eInt n1)), .ex (.ow ((eLst (e2 eInt eInt)) s12)), .ex (.im ((eLst eInt) l6)), .ex (.im ((eLst eInt) l10)), .ex (.im (eInt b13)), .soft, .soft, .soft, .ex .un]) rfl ?_
      refine bnd h fun r14 q_r14 h => ?_
      refine bnd h fun s22 q_s22 h => ?_
      exact fin_nxE [0, 0, 0, 0, 0, 2, 0, 0, 0, 0] (v := s22) (st_for (I := eInt) (P := fun (s15 : List (Int × Int)) => [.ex (.im (eStr memory_here_)), .ex (.im (eInt n1)), .ex (.ow ((eLst (e2 eInt eInt)) s15)), .ex (.im ((eLst eInt) l6)), .ex (.im ((eLst eInt) l10)), .ex (.im (eInt b13)), .soft, .soft, .soft, .ex .un]) (st := s12) (it_of (g := range1F) (evs_c (ev_v rfl) evs_n) rfl (trange1_ok q_r14)) [0, 0, 0, 0, 0, 0, 0, 0, 0, 0] rfl rfl (fun b16 s15 st9 h => by
          refine ⟨_, rfl, ?_⟩
          refine fin_to (p' := [.ex (.im (eStr memory_here_)), .ex (.im (eInt n1)), .ex (.ow ((eLst (e2 eInt eInt)) s15)), .ex (.im ((eLst eInt) l6)), .ex (.im ((eLst eInt) l10)), .ex (.im (eInt b13)), .ex (.im (eInt b16)), .soft, .soft, .ex .un]) rfl ?_
          refine bnd h fun c18 q_c18 h => ?_
          refine fin_seq (nx_set (t_ite (r2 := .pers (eInt c18)) (tst_of (ev_op (d := eBl (decide (b16 < (l6.length : Int)))) (evs_c (ev_op (d := eInt (l6.length : Int)) (evs_c (ev_v rfl) evs_n) rfl len_lst) (evs_c (ev_v rfl) evs_n)) rfl rfl) rfl rfl) (fun k => by
            have h := ifT q_c18 k
            refine bnd h fun x17 q_x17 h => ?_
            exact ev_eq (enc := eInt) (ev_op (d := eInt x17) (evs_c (ev_v rfl) (evs_c (ev_v rfl) evs_n)) rfl (ix_lst q_x17)) h) (fun k => by
            have h := ifF q_c18 k
            exact ev_eq (enc := eInt) (ev_v rfl) h)) rfl rfl) ?_
          refine fin_to (p' := [.ex (.im (eStr memory_here_)), .ex (.im (eInt n1)), .ex (.ow ((eLst (e2 eInt eInt)) s15)), .ex (.im ((eLst eInt) l6)), .ex (.im ((eLst eInt) l10)), .ex (.im (eInt b13)), .ex (.im (eInt b16)), .ex (.im (eInt c18)), .soft, .ex .un]) rfl ?_
          refine bnd h fun c20 q_c20 h => ?_
          refine fin_seq (nx_set (t_ite (r2 := .pers (eInt c20)) (tst_of (ev_op (d := eBl (decide ((n1 - b13) < (l10.length : Int)))) (evs_c (ev_op (d := eInt (l10.length : Int)) (evs_c (ev_v rfl) evs_n) rfl len_lst) (evs_c (ev_op (d := eInt (n1 - b13)) (evs_c (ev_v rfl) (evs_c (ev_v rfl) evs_n)) rfl rfl) evs_n)) rfl rfl) rfl rfl) (fun k => by
            have h := ifT q_c20 k
            refine bnd h fun x19 q_x19 h => ?_
            exact ev_eq (enc := eInt) (ev_op (d := eInt x19) (evs_c (ev_v rfl) (evs_c (ev_op (d := eInt (n1 - b13)) (evs_c (ev_v rfl) (evs_c (ev_v rfl) evs_n)) rfl rfl) evs_n)) rfl (ix_lst q_x19)) h) (fun k => by
            have h := ifF q_c20 k
            exact ev_eq (enc := eInt) (ev_v rfl) h)) rfl rfl) ?_
          refine fin_to (p' := [.ex (.im (eStr memory_here_)), .ex (.im (eInt n1)), .ex (.ow ((eLst (e2 eInt eInt)) s15)), .ex (.im ((eLst eInt) l6)), .ex (.im ((eLst eInt) l10)), .ex (.im (eInt b13)), .ex (.im (eInt b16)), .ex (.im (eInt c18)), .ex (.im (eInt c20)), .ex .un]) rfl ?_
          refine ifS h (fun k h => ?_) (fun k h => ?_)
          · refine t_ifT (tk (tst_of (ev_op (d := eBl (decide (c18 < c20))) (evs_c (ev_v rfl) (evs_c (ev_v rfl) evs_n)) rfl rfl) rfl rfl) k) ?_
            refine bnd h fun found21 q_found21 h => ?_
            exact fin_nxE [0, 0, 0, 0, 0, 0, 2, 2, 2, 0] (v := found21) (nx_appT rfl (ev_mk (d := (e2 eInt eInt) (b13, b16)) (evs_c (ev_v rfl) (evs_c (ev_v rfl) evs_n)) rfl rfl) rfl rfl q_found21) rfl rfl h
          · refine t_ifF (tk (tst_of (ev_op (d := eBl (decide (c18 < c20))) (evs_c (ev_v rfl) (evs_c (ev_v rfl) evs_n)) rfl rfl) rfl rfl) k) ?_
            exact fin_nxE [0, 0, 0, 0, 0, 0, 2, 2, 2, 0] (v := s15) nx_skip rfl rfl h) q_s22) rfl rfl h) q_s23) ?_
  refine fin_to (p' := [.ex (.im (eStr memory_here_)), .ex (.im (eInt n1)), .ex (.ow ((eLst (e2 eInt eInt)) s23)), .ex (.im ((eLst eInt) l6)), .ex (.im ((eLst eInt) l10)), .soft, .soft, .soft, .soft, .ex .un]) rfl ?_
  exact fin_retE (enc := (eLst (e2 eInt eInt))) (v := s23) (ev_ow rfl) rfl rfl h (fun _ _ => trivial)
def t_is_memory (value_ : List Nat) : Option (Bool) :=
  (if (!true) = true then some true else ((slen value_).bind fun n1 => some (!((decide (1 ≤ n1)) && (decide (n1 ≤ 9)))))).bind fun b2 =>
  if b2 = true then (
    some false)
  else (
    some (value_.all (fun c => decide (c ∈ ((⟨#[48, 49]⟩ : Str)).cps.toList))))
theorem t_is_memory_ok {value_ : List Nat} {r9 : Bool} (h : t_is_memory value_ = some r9) : φ_is_memory [eStr value_] = some (eBl r9) := by
  unfold t_is_memory at h
  unfold φ_is_memory
  show runI _ _ _ _ = _
  unfold s_is_memory
  refine run_I (p := [.ex (.im (eStr value_))]) rfl ?_ rfl
  refine bnd h fun b2 q_b2 h => ?_
  refine ifS h (fun k h => ?_) (fun k h => ?_)
  · refine t_sifT (tk (tst_orM (tst_of (not_tst (tst_of (ev_op (d := eBl true) (evs_c (ev_v rfl) evs_n) rfl rfl) rfl rfl)) rfl rfl) q_b2 (fun _ h => by
      refine bnd h fun n1 q_n1 h => ?_
      exact tst_eq (tst_of (not_tst (tst_of (ev_chain (a := decide (1 ≤ n1)) (b := decide (n1 ≤ 9)) ev_cst (ev_op (d := eInt n1) (evs_c (ev_v rfl) evs_n) rfl (slen_ok q_n1)) rfl rfl (fun _ => ev_cst) rfl (fun _ => rfl)) rfl rfl)) rfl rfl) h)) k) ?_
    refine fin_seqR (P' := fun (_ : Unit) => []) ?_
    exact fin_retE (enc := eBl) (v := false) ev_cst rfl rfl h (fun _ _ => trivial)
  · refine t_sifF (tk (tst_orM (tst_of (not_tst (tst_of (ev_op (d := eBl true) (evs_c (ev_v rfl) evs_n) rfl rfl) rfl rfl)) rfl rfl) q_b2 (fun _ h => by
      refine bnd h fun n1 q_n1 h => ?_
      exact tst_eq (tst_of (not_tst (tst_of (ev_chain (a := decide (1 ≤ n1)) (b := decide (n1 ≤ 9)) ev_cst (ev_op (d := eInt n1) (evs_c (ev_v rfl) evs_n) rfl (slen_ok q_n1)) rfl rfl (fun _ => ev_cst) rfl (fun _ => rfl)) rfl rfl)) rfl rfl) h)) k) ?_
    refine fin_skip ?_
    exact fin_retE (enc := eBl) (v := value_.all (fun c => decide (c ∈ ((⟨#[48, 49]⟩ : Str)).cps.toList))) (ev_op (d := eBl (value_.all (fun c => decide (c ∈ ((⟨#[48, 49]⟩ : Str)).cps.toList)))) (evs_c (ev_v rfl) evs_n) rfl rfl) rfl rfl h (fun _ _ => trivial)
def t_need_memory (memory_ : List Nat) : Option (Unit) :=
  (t_is_memory memory_).bind fun c1 =>
  if (!c1) = true then (
    none)
  else (
    some ())
theorem t_need_memory_ok {memory_ : List Nat} {r9 : Unit} (h : t_need_memory memory_ = some r9) : φ_need_memory [eStr memory_] = some (eNo r9) := by
  unfold t_need_memory at h
  unfold φ_need_memory
  show runI _ _ _ _ = _
  unfold s_need_memory
  refine run_In (p := [.ex (.im (eStr memory_))]) (p' := [.any]) rfl ?_ rfl
  refine bnd h fun c1 q_c1 h => ?_
  refine ifS h (fun k h => ?_) (fun k h => ?_)
  · cases h
  · refine t_ifF (tk (tst_of (not_tst (tst_of (ev_call (d := eBl c1) (evs_c (ev_v rfl) evs_n) rfl (t_is_memory_ok q_c1)) rfl rfl)) rfl rfl) k) ?_
    exact fin_nx [1] nx_skip rfl rfl
def t_need_pair (one_ : List Nat) (other_ : List Nat) : Option (Unit) :=
  (t_need_memory one_).bind fun c1 =>
  (t_need_memory other_).bind fun c2 =>
  (slen other_).bind fun n3 =>
  (slen one_).bind fun n4 =>
  if (!(n3 == n4)) = true then (
    none)
  else (
    some ())
theorem t_need_pair_ok {one_ : List Nat} {other_ : List Nat} {r9 : Unit} (h : t_need_pair one_ other_ = some r9) : φ_need_pair [eStr one_, eStr other_] = some (eNo r9) := by
  unfold t_need_pair at h
  unfold φ_need_pair
  show runI _ _ _ _ = _
  unfold s_need_pair
  refine run_In (p := [.ex (.im (eStr one_)), .ex (.im (eStr other_))]) (p' := [.any, .any]) rfl ?_ rfl
  refine bnd h fun c1 q_c1 h => ?_
  refine fin_seq (nx_exp (ev_call (d := eNo c1) (evs_c (ev_v rfl) evs_n) rfl (t_need_memory_ok q_c1))) ?_
  refine fin_to (p' := [.ex (.im (eStr one_)), .ex (.im (eStr other_))]) rfl ?_
  refine bnd h fun c2 q_c2 h => ?_
  refine fin_seq (nx_exp (ev_call (d := eNo c2) (evs_c (ev_v rfl) evs_n) rfl (t_need_memory_ok q_c2))) ?_
  refine fin_to (p' := [.ex (.im (eStr one_)), .ex (.im (eStr other_))]) rfl ?_
  refine bnd h fun n3 q_n3 h => ?_
  refine bnd h fun n4 q_n4 h => ?_
  refine ifS h (fun k h => ?_) (fun k h => ?_)
  · cases h
  · refine t_ifF (tk (tst_of (ev_op (d := eBl (!(n3 == n4))) (evs_c (ev_op (d := eInt n3) (evs_c (ev_v rfl) evs_n) rfl (slen_ok q_n3)) (evs_c (ev_op (d := eInt n4) (evs_c (ev_v rfl) evs_n) rfl (slen_ok q_n4)) evs_n)) rfl (ne_sc eqe_int (x := n3) (y := n4) rfl)) rfl rfl) k) ?_
    exact fin_nx [1, 1] nx_skip rfl rfl
def t_counts (memory_ : List Nat) : Option (List Int) :=
  (slen memory_).bind fun n1 =>
  (trange1 n1).bind fun r2 =>
  (tcmp (fun (b3 : Int) => (scut memory_ none (some (b3 + 1))).bind fun s4 => some [((s4.count 49 : Nat) : Int)]) r2).bind fun l5 =>
  some l5
theorem t_counts_ok {memory_ : List Nat} {r9 : List Int} (h : t_counts memory_ = some r9) : φ_counts [eStr memory_] = some ((eLst eInt) r9) := by
  unfold t_counts at h
  unfold φ_counts
  show runI _ _ _ _ = _
  unfold s_counts
  refine run_I (p := [.ex (.im (eStr memory_)), .ex .un]) rfl ?_ rfl
  refine bnd h fun n1 q_n1 h => ?_
  refine bnd h fun r2 q_r2 h => ?_
  refine bnd h fun l5 q_l5 h => ?_
  exact fin_retE (enc := (eLst eInt)) (v := l5) (ev_lcU (I := eInt) (O := eInt) (pw := [.ex (.im (eStr memory_)), .ex .un]) (it_of (g := range1F) (evs_c (ev_op (d := eInt n1) (evs_c (ev_v rfl) evs_n) rfl (slen_ok q_n1)) evs_n) rfl (trange1_ok q_r2)) rfl rfl (fun b3 ys h => by
        refine bnd h fun s4 q_s4 h => ?_
        cases h
        exact turnK (d1 := eInt ((s4.count 49 : Nat) : Int)) rfl evt_n (ev_op (d := eInt ((s4.count 49 : Nat) : Int)) (evs_c (ev_op (d := eStr s4) (evs_c (ev_v rfl) (evs_c (ev_op (d := eInt (b3 + 1)) (evs_c (ev_v rfl) (evs_c ev_cst evs_n)) rfl rfl) evs_n)) rfl (scut_ok q_s4)) (evs_c ev_cst evs_n)) rfl rfl) rfl rfl) q_l5 rfl) rfl rfl h (fun _ _ => trivial)
def t_below (one_ : List Nat) (other_ : List Nat) : Option (Bool) :=
  (t_counts one_).bind fun c1 =>
  (t_counts other_).bind fun c2 =>
  some ((List.zip c1 c2).all (fun q => decide (q.1 ≤ q.2)))
theorem t_below_ok {one_ : List Nat} {other_ : List Nat} {r9 : Bool} (h : t_below one_ other_ = some r9) : φ_below [eStr one_, eStr other_] = some (eBl r9) := by
  unfold t_below at h
  unfold φ_below
  show runI _ _ _ _ = _
  unfold s_below
  refine run_I (p := [.ex (.im (eStr one_)), .ex (.im (eStr other_))]) rfl ?_ rfl
  refine bnd h fun c1 q_c1 h => ?_
  refine bnd h fun c2 q_c2 h => ?_
  exact fin_retE (enc := eBl) (v := (List.zip c1 c2).all (fun q => decide (q.1 ≤ q.2))) (ev_mk (d := eBl ((List.zip c1 c2).all (fun q => decide (q.1 ≤ q.2)))) (evs_c (ev_call (d := (eLst eInt) c1) (evs_c (ev_v rfl) evs_n) rfl (t_counts_ok q_c1)) (evs_c (ev_call (d := (eLst eInt) c2) (evs_c (ev_v rfl) evs_n) rfl (t_counts_ok q_c2)) evs_n)) rfl allL_ok) rfl rfl h (fun _ _ => trivial)
def t_is_below (one_ : List Nat) (other_ : List Nat) : Option (Bool) :=
  (t_need_pair one_ other_).bind fun c1 =>
  (t_below one_ other_).bind fun c2 =>
  some c2
theorem t_is_below_ok {one_ : List Nat} {other_ : List Nat} {r9 : Bool} (h : t_is_below one_ other_ = some r9) : φ_is_below [eStr one_, eStr other_] = some (eBl r9) := by
  unfold t_is_below at h
  unfold φ_is_below
  show runI _ _ _ _ = _
  unfold s_is_below
  refine run_I (p := [.ex (.im (eStr one_)), .ex (.im (eStr other_))]) rfl ?_ rfl
  refine bnd h fun c1 q_c1 h => ?_
  refine fin_seq (nx_exp (ev_call (d := eNo c1) (evs_c (ev_v rfl) (evs_c (ev_v rfl) evs_n)) rfl (t_need_pair_ok q_c1))) ?_
  refine fin_to (p' := [.ex (.im (eStr one_)), .ex (.im (eStr other_))]) rfl ?_
  refine bnd h fun c2 q_c2 h => ?_
  exact fin_retE (enc := eBl) (v := c2) (ev_call (d := eBl c2) (evs_c (ev_v rfl) (evs_c (ev_v rfl) evs_n)) rfl (t_below_ok q_c2)) rfl rfl h (fun _ _ => trivial)
def t_rank_of (memory_ : List Nat) : Option (Int) :=
  (t_counts memory_).bind fun c1 =>
  some c1.sum
theorem t_rank_of_ok {memory_ : List Nat} {r9 : Int} (h : t_rank_of memory_ = some r9) : φ_rank_of [eStr memory_] = some (eInt r9) := by
  unfold t_rank_of at h
  unfold φ_rank_of
  show runI _ _ _ _ = _
  unfold s_rank_of
  refine run_I (p := [.ex (.im (eStr memory_))]) rfl ?_ rfl
  refine bnd h fun c1 q_c1 h => ?_
  exact fin_retE (enc := eInt) (v := c1.sum) (ev_op (d := eInt c1.sum) (evs_c (ev_call (d := (eLst eInt) c1) (evs_c (ev_v rfl) evs_n) rfl (t_counts_ok q_c1)) evs_n) rfl sumL_ok) rfl rfl h (fun _ _ => trivial)
def t_rank (memory_ : List Nat) : Option (Int) :=
  (t_need_memory memory_).bind fun c1 =>
  (t_rank_of memory_).bind fun c2 =>
  some c2
theorem t_rank_ok {memory_ : List Nat} {r9 : Int} (h : t_rank memory_ = some r9) : φ_rank [eStr memory_] = some (eInt r9) := by
  unfold t_rank at h
  unfold φ_rank
  show runI _ _ _ _ = _
  unfold s_rank
  refine run_I (p := [.ex (.im (eStr memory_))]) rfl ?_ rfl
  refine bnd h fun c1 q_c1 h => ?_
  refine fin_seq (nx_exp (ev_call (d := eNo c1) (evs_c (ev_v rfl) evs_n) rfl (t_need_memory_ok q_c1))) ?_
  refine fin_to (p' := [.ex (.im (eStr memory_))]) rfl ?_
  refine bnd h fun c2 q_c2 h => ?_
  exact fin_retE (enc := eInt) (v := c2) (ev_call (d := eInt c2) (evs_c (ev_v rfl) evs_n) rfl (t_rank_of_ok q_c2)) rfl rfl h (fun _ _ => trivial)
def t_from_counts (some_ : List Int) : Option (List Nat) :=
  (some ([], 0)).bind fun v1 =>
  (fld (fun (b3 : Int) (s2 : (List Nat) × Int) =>
      (scat s2.1 (if (decide (s2.2 < b3)) = true then [49] else [48])).bind fun s4 =>
      some (s4, b3)) some_ (v1.1, v1.2)).bind fun s5 =>
  some s5.1
theorem t_from_counts_ok {some_ : List Int} {r9 : List Nat} (h : t_from_counts some_ = some r9) : φ_from_counts [(eLst eInt) some_] = some (eStr r9) := by
  unfold t_from_counts at h
  unfold φ_from_counts
  show runI _ _ _ _ = _
  unfold s_from_counts
  refine run_I (p := [.ex (.im ((eLst eInt) some_)), .ex .un, .ex .un, .ex .un]) rfl ?_ rfl
  refine bnd h fun v1 q_v1 h => ?_
  refine fin_seq (nx_set (ev_eq (enc := (e2 eStr eInt)) (ev_mk (d := (e2 eStr eInt) ([], 0)) (evs_c ev_cst (evs_c ev_cst evs_n)) rfl rfl) q_v1) rfl rfl) ?_
  refine fin_to (p' := [.ex (.im ((eLst eInt) some_)), .ex (.im (eStr v1.1)), .ex (.im (eInt v1.2)), .ex .un]) rfl ?_
  refine bnd h fun s5 q_s5 h => ?_
  refine fin_seq (st_for (I := eInt) (P := fun (s2 : (List Nat) × Int) => [.ex (.im ((eLst eInt) some_)), .ex (.im (eStr s2.1)), .ex (.im (eInt s2.2)), .soft]) (st := (v1.1, v1.2)) (it_of (g := itemsF) (evs_c (ev_v rfl) evs_n) rfl it_lst) [0, 0, 0, 2] rfl rfl (fun b3 s2 st9 h => by
      refine ⟨_, rfl, ?_⟩
      refine fin_to (p' := [.ex (.im ((eLst eInt) some_)), .ex (.im (eStr s2.1)), .ex (.im (eInt s2.2)), .ex (.im (eInt b3))]) rfl ?_
      refine bnd h fun s4 q_s4 h => ?_
      refine fin_seq (nx_set (ev_op (d := eStr s4) (evs_c (ev_v rfl) (evs_c (t_iteP (enc := eStr) (u := [49]) (v := [48]) (tst_of (ev_op (d := eBl (decide (s2.2 < b3))) (evs_c (ev_v rfl) (evs_c (ev_v rfl) evs_n)) rfl rfl) rfl rfl) (fun _ => ev_cst) (fun _ => ev_cst)) evs_n)) rfl (scat_ok q_s4)) rfl rfl) ?_
      refine fin_to (p' := [.ex (.im ((eLst eInt) some_)), .ex (.im (eStr s4)), .ex (.im (eInt s2.2)), .ex (.im (eInt b3))]) rfl ?_
      exact fin_nxE [0, 0, 0, 2] (v := (s4, b3)) (nx_set (ev_v rfl) rfl rfl) rfl rfl h) q_s5) ?_
  refine fin_to (p' := [.ex (.im ((eLst eInt) some_)), .ex (.im (eStr s5.1)), .ex (.im (eInt s5.2)), .soft]) rfl ?_
  exact fin_retE (enc := eStr) (v := s5.1) (ev_v rfl) rfl rfl h (fun _ _ => trivial)
def t_meet (one_ : List Nat) (other_ : List Nat) : Option (List Nat) :=
  (t_need_pair one_ other_).bind fun c1 =>
  (t_counts one_).bind fun c2 =>
  (t_counts other_).bind fun c3 =>
  (tmap (fun (b4 : Int × Int) => imin b4.1 b4.2) (List.zip c2 c3)).bind fun l5 =>
  (t_from_counts l5).bind fun c6 =>
  some c6
theorem t_meet_ok {one_ : List Nat} {other_ : List Nat} {r9 : List Nat} (h : t_meet one_ other_ = some r9) : φ_meet [eStr one_, eStr other_] = some (eStr r9) := by
  unfold t_meet at h
  unfold φ_meet
  show runI _ _ _ _ = _
  unfold s_meet
  refine run_I (p := [.ex (.im (eStr one_)), .ex (.im (eStr other_)), .ex .un, .ex .un]) rfl ?_ rfl
  refine bnd h fun c1 q_c1 h => ?_
  refine fin_seq (nx_exp (ev_call (d := eNo c1) (evs_c (ev_v rfl) (evs_c (ev_v rfl) evs_n)) rfl (t_need_pair_ok q_c1))) ?_
  refine fin_to (p' := [.ex (.im (eStr one_)), .ex (.im (eStr other_)), .ex .un, .ex .un]) rfl ?_
  refine bnd h fun c2 q_c2 h => ?_
  refine bnd h fun c3 q_c3 h => ?_
  refine bnd h fun l5 q_l5 h => ?_
  refine bnd h fun c6 q_c6 h => ?_
  exact fin_retE (enc := eStr) (v := c6) (ev_call (d := eStr c6) (evs_c (ev_lcM (I := (e2 eInt eInt)) (O := eInt) (pw := [.ex (.im (eStr one_)), .ex (.im (eStr other_)), .ex .un, .ex .un]) (it_of (g := zip2F) (evs_c (ev_call (d := (eLst eInt) c2) (evs_c (ev_v rfl) evs_n) rfl (t_counts_ok q_c2)) (evs_c (ev_call (d := (eLst eInt) c3) (evs_c (ev_v rfl) evs_n) rfl (t_counts_ok q_c3)) evs_n)) rfl (zp src_lst src_lst)) rfl rfl (fun b4 => turnK rfl evt_n (ev_op (d := eInt (imin b4.1 b4.2)) (evs_c (ev_v rfl) (evs_c (ev_v rfl) evs_n)) rfl rfl) rfl rfl) q_l5 rfl) evs_n) rfl (t_from_counts_ok q_c6)) rfl rfl h (fun _ _ => trivial)
def t_join (one_ : List Nat) (other_ : List Nat) : Option (List Nat) :=
  (t_need_pair one_ other_).bind fun c1 =>
  (t_counts one_).bind fun c2 =>
  (t_counts other_).bind fun c3 =>
  (tmap (fun (b4 : Int × Int) => imax b4.1 b4.2) (List.zip c2 c3)).bind fun l5 =>
  (t_from_counts l5).bind fun c6 =>
  some c6
theorem t_join_ok {one_ : List Nat} {other_ : List Nat} {r9 : List Nat} (h : t_join one_ other_ = some r9) : φ_join [eStr one_, eStr other_] = some (eStr r9) := by
  unfold t_join at h
  unfold φ_join
  show runI _ _ _ _ = _
  unfold s_join
  refine run_I (p := [.ex (.im (eStr one_)), .ex (.im (eStr other_)), .ex .un, .ex .un]) rfl ?_ rfl
  refine bnd h fun c1 q_c1 h => ?_
  refine fin_seq (nx_exp (ev_call (d := eNo c1) (evs_c (ev_v rfl) (evs_c (ev_v rfl) evs_n)) rfl (t_need_pair_ok q_c1))) ?_
  refine fin_to (p' := [.ex (.im (eStr one_)), .ex (.im (eStr other_)), .ex .un, .ex .un]) rfl ?_
  refine bnd h fun c2 q_c2 h => ?_
  refine bnd h fun c3 q_c3 h => ?_
  refine bnd h fun l5 q_l5 h => ?_
  refine bnd h fun c6 q_c6 h => ?_
  exact fin_retE (enc := eStr) (v := c6) (ev_call (d := eStr c6) (evs_c (ev_lcM (I := (e2 eInt eInt)) (O := eInt) (pw := [.ex (.im (eStr one_)), .ex (.im (eStr other_)), .ex .un, .ex .un]) (it_of (g := zip2F) (evs_c (ev_call (d := (eLst eInt) c2) (evs_c (ev_v rfl) evs_n) rfl (t_counts_ok q_c2)) (evs_c (ev_call (d := (eLst eInt) c3) (evs_c (ev_v rfl) evs_n) rfl (t_counts_ok q_c3)) evs_n)) rfl (zp src_lst src_lst)) rfl rfl (fun b4 => turnK rfl evt_n (ev_op (d := eInt (imax b4.1 b4.2)) (evs_c (ev_v rfl) (evs_c (ev_v rfl) evs_n)) rfl rfl) rfl rfl) q_l5 rfl) evs_n) rfl (t_from_counts_ok q_c6)) rfl rfl h (fun _ _ => trivial)
def t_law (script_ : List Int) : Option (Bool) :=
  (some (script_, 0, 5510, 0)).bind fun row1 =>
  (t__law_taken row1 6).bind fun w2 =>
  (some (1 + w2.1)).bind fun span3 =>
  (trange1 2).bind fun r4 =>
  (tcmpS (fun (b14 : Int) (s15 : (List Int) × Int × Int × Int) => (trange1 span3).bind fun r16 => (tcmpS (fun (b19 : Int) (s20 : (List Int) × Int × Int × Int) => (t__law_pick_s s20 [48, 49]).bind fun w21 => some ([w21.1], w21.2)) r16 s15).bind fun l22 => (sjoin [] l22.1).bind fun s23 => some ([s23], l22.2)) r4 w2.2).bind fun l24 =>
  (un2 l24.1).bind fun w25 =>
  (t__law_all span3).bind fun c26 =>
  (tcmp (fun (b27 : List Nat) => (t__law_on b27).bind fun c28 => some [(b27, c28)]) c26).bind fun l29 =>
  (some (mkd l29)).bind fun table30 =>
  (t_is_below w25.1 w25.2).bind fun c31 =>
  (dlk table30 w25.1).bind fun y32 =>
  (tcmp (fun (b33 : Int × Int) => (dlk table30 w25.2).bind fun y34 => (tmem (e2 eInt eInt) b33 y34).bind fun b35 => if (true != b35) = true then (some [b33]) else some []) y32).bind fun l36 =>
  (teq (eLst (e2 eInt eInt)) l36 ([] : List (Int × Int))).bind fun b37 =>
  (talike eBl c31 b37).bind fun k38 =>
  if (!k38) = true then (
    some false)
  else (
    (t_rank w25.1).bind fun c39 =>
    (dlk table30 w25.1).bind fun y40 =>
    (talike eInt c39 (y40.length : Int)).bind fun k41 =>
    if (!k41) = true then (
      some false)
    else (
      (tcmp (fun (b42 : List Nat) => (dlk table30 b42).bind fun y43 => (tcmp (fun (b44 : Int × Int) => (dlk table30 w25.1).bind fun y45 => (tmem (e2 eInt eInt) b44 y45).bind fun b46 => (if (true != b46) = true then some true else ((dlk table30 w25.2).bind fun y47 => (tmem (e2 eInt eInt) b44 y47).bind fun b48 => some (true != b48))).bind fun b49 => if b49 = true then (some [b44]) else some []) y43).bind fun l50 => (teq (eLst (e2 eInt eInt)) l50 ([] : List (Int × Int))).bind fun b51 => if b51 = true then (some [b42]) else some []) (dks table30)).bind fun l52 =>
      (tcmp (fun (b53 : List Nat) => (dlk table30 w25.1).bind fun y54 => (dlk table30 w25.2).bind fun y55 => (lcat y54 y55).bind fun l56 => (tcmp (fun (b57 : Int × Int) => (dlk table30 b53).bind fun y58 => (tmem (e2 eInt eInt) b57 y58).bind fun b59 => if (true != b59) = true then (some [b57]) else some []) l56).bind fun l60 => (teq (eLst (e2 eInt eInt)) l60 ([] : List (Int × Int))).bind fun b61 => if b61 = true then (some [b53]) else some []) (dks table30)).bind fun l62 =>
      (t_meet w25.1 w25.2).bind fun c63 =>
      (t_join w25.1 w25.2).bind fun c64 =>
      (some (c63, c64)).bind fun v65 =>
      (tmem eStr v65.1 l52).bind fun b66 =>
      (if (true != b66) = true then some true else ((tmem eStr v65.2 l62).bind fun b67 => some (true != b67))).bind fun b68 =>
      if b68 = true then (
        some false)
      else (
        (tcmp (fun (b69 : List Nat) => (dlk table30 b69).bind fun y70 => (tcmp (fun (b71 : Int × Int) => (dlk table30 v65.1).bind fun y72 => (tmem (e2 eInt eInt) b71 y72).bind fun b73 => if (true != b73) = true then (some [b71]) else some []) y70).bind fun l74 => (teq (eLst (e2 eInt eInt)) l74 ([] : List (Int × Int))).bind fun b75 => if (!b75) = true then (some [b69]) else some []) l52).bind fun l76 =>
        (teq (eLst eStr) l76 ([] : List (List Nat))).bind fun b77 =>
        if (!b77) = true then (
          some false)
        else (
          (tcmp (fun (b78 : List Nat) => (dlk table30 v65.2).bind fun y79 => (tcmp (fun (b80 : Int × Int) => (dlk table30 b78).bind fun y81 => (tmem (e2 eInt eInt) b80 y81).bind fun b82 => if (true != b82) = true then (some [b80]) else some []) y79).bind fun l83 => (teq (eLst (e2 eInt eInt)) l83 ([] : List (Int × Int))).bind fun b84 => if (!b84) = true then (some [b78]) else some []) l62).bind fun l85 =>
          (teq (eLst eStr) l85 ([] : List (List Nat))).bind fun b86 =>
          if (!b86) = true then (
            some false)
          else (
            (dlk table30 w25.1).bind fun y87 =>
            (tcmp (fun (b88 : Int × Int) => (dlk table30 w25.2).bind fun y89 => (tmem (e2 eInt eInt) b88 y89).bind fun b90 => if (false != b90) = true then (some [b88]) else some []) y87).bind fun l91 =>
            (dlk table30 w25.1).bind fun y92 =>
            (dlk table30 w25.2).bind fun y93 =>
            (lcat y92 y93).bind fun l94 =>
            (tss l94).bind fun l95 =>
            (dlk table30 v65.2).bind fun y96 =>
            (teq (eLst (e2 eInt eInt)) l95 y96).bind fun b97 =>
            (if b97 = true then ((dlk table30 v65.1).bind fun y98 => (teq (eLst (e2 eInt eInt)) l91 y98).bind fun b99 => some b99) else some false).bind fun b100 =>
            some b100)))))
theorem t_law_ok {script_ : List Int} {r9 : Bool} (h : t_law script_ = some r9) : φ_law [eScr script_] = some (eBl r9) := by
  unfold t_law at h
  unfold φ_law
  show runI _ _ _ _ = _
  unfold s_law
  refine run_I (p := [.ex (.im (eScr script_)), .ex .un, .ex .un, .ex .un, .ex .un, .ex .un, .ex .un, .ex .un, .ex .un, .ex .un, .ex .un, .ex .un, .ex .un, .ex .un, .ex .un]) rfl ?_ rfl
  refine bnd h fun row1 q_row1 h => ?_
  refine fin_seq (nx_setO (ev_eq (enc := (h4 eScr eInt eInt eInt)) (ev_mk (d := (h4 eScr eInt eInt eInt) (script_, 0, 5510, 0)) (evs_c (ev_v rfl) (evs_c ev_cst (evs_c ev_cst (evs_c ev_cst evs_n)))) rfl rfl) q_row1) rfl) ?_
  refine fin_to (p' := [.ex (.im (eScr script_)), .ex (.ow ((h4 eScr eInt eInt eInt) row1)), .ex .un, .ex .un, .ex .un, .ex .un, .ex .un, .ex .un, .ex .un, .ex .un, .ex .un, .ex .un, .ex .un, .ex .un, .ex .un]) rfl ?_
  refine bnd h fun w2 q_w2 h => ?_
  refine bnd h fun span3 q_span3 h => ?_
  refine fin_seq (nx_set (ev_eq (enc := eInt) (ev_op (d := eInt (1 + w2.1)) (evs_c ev_cst (evs_c (ev_callOo (d := eInt w2.1) (d1 := (h4 eScr eInt eInt eInt) w2.2) rfl (evs_c ev_cst evs_n) rfl rfl (t__law_taken_ok q_w2)) evs_n)) rfl rfl) q_span3) rfl rfl) ?_
  refine fin_to (p' := [.ex (.im (eScr script_)), .ex (.ow ((h4 eScr eInt eInt eInt) w2.2)), .ex (.im (eInt span3)), .ex .un, .ex .un, .ex .un, .ex .un, .ex .un, .ex .un, .ex .un, .ex .un, .ex .un, .ex .un, .ex .un, .ex .un]) rfl ?_
  refine bnd h fun r4 q_r4 h => ?_
  refine bnd h fun l24 q_l24 h => ?_
  refine bnd h fun w25 q_w25 h => ?_
  refine fin_seq (nx_set (ev_eq (enc := (eLst eStr)) (ev_lcS (P := fun (s15 : (List Int) × Int × Int × Int) => [.ex (.im (eScr script_)), .ex (.ow ((h4 eScr eInt eInt eInt) s15)), .ex (.im (eInt span3)), .ex .un, .ex .un, .ex .un, .ex .un, .ex .un, .ex .un, .ex .un, .ex .un, .ex .un, .ex .un, .ex .un, .ex .un]) (I := eInt) (O := eStr) (s := w2.2) (it_of (g := range1F) (evs_c ev_cst evs_n) rfl (trange1_ok q_r4)) rfl rfl (fun b14 s15 ys s9 h => by
        refine bnd h fun r16 q_r16 h => ?_
        refine bnd h fun l22 q_l22 h => ?_
        refine bnd h fun s23 q_s23 h => ?_
        cases h
        exact turnK (d1 := eStr s23) rfl evt_n (ev_op (d := eStr s23) (evs_c ev_cst (evs_c (ev_lcS (P := fun (s20 : (List Int) × Int × Int × Int) => [.ex (.im (eScr script_)), .ex (.ow ((h4 eScr eInt eInt eInt) s20)), .ex (.im (eInt span3)), .ex .un, .ex .un, .ex .un, .ex .un, .ex .un, .ex .un, .ex .un, .ex .un, .ex (.im (eInt b14)), .ex .un, .ex .un, .ex .un]) (I := eInt) (O := eStr) (s := s15) (it_of (g := range1F) (evs_c (ev_v rfl) evs_n) rfl (trange1_ok q_r16)) rfl rfl (fun b19 s20 ys s9 h => by
              refine bnd h fun w21 q_w21 h => ?_
              cases h
              exact turnK (d1 := eStr w21.1) rfl evt_n (ev_callOo (d := eStr w21.1) (d1 := (h4 eScr eInt eInt eInt) w21.2) rfl (evs_c ev_cst evs_n) rfl rfl (t__law_pick_s_ok q_w21)) rfl rfl) q_l22 rfl) evs_n)) rfl (sjoin_ok q_s23)) rfl rfl) q_l24 rfl) (un2_ok q_w25)) rfl rfl) ?_
  refine fin_to (p' := [.ex (.im (eScr script_)), .ex (.ow ((h4 eScr eInt eInt eInt) l24.2)), .ex (.im (eInt span3)), .ex (.im (eStr w25.1)), .ex (.im (eStr w25.2)), .ex .un, .ex .un, .ex .un, .ex .un, .ex .un, .ex .un, .ex .un, .ex .un, .ex .un, .ex .un]) rfl ?_
  refine bnd h fun c26 q_c26 h => ?_
  refine bnd h fun l29 q_l29 h => ?_
  refine bnd h fun table30 q_table30 h => ?_
  refine fin_seq (nx_set (ev_eq (enc := (eD false eStr (eLst (e2 eInt eInt)))) (ev_op (d := (eD false eStr (eLst (e2 eInt eInt))) (mkd l29)) (evs_c (ev_lcU (I := eStr) (O := (e2 eStr (eLst (e2 eInt eInt)))) (pw := [.ex (.im (eScr script_)), .ex (.ow ((h4 eScr eInt eInt eInt) l24.2)), .ex (.im (eInt span3)), .ex (.im (eStr w25.1)), .ex (.im (eStr w25.2)), .ex .un, .ex .un, .ex .un, .ex .un, .ex .un, .ex .un, .ex .un, .ex .un, .ex .un, .ex .un]) (it_of (g := itemsF) (evs_c (ev_call (d := (eLst eStr) c26) (evs_c (ev_v rfl) evs_n) rfl (t__law_all_ok q_c26)) evs_n) rfl it_lst) rfl rfl (fun b27 ys h => by
        refine bnd h fun c28 q_c28 h => ?_
        cases h
        exact turnK (d1 := (e2 eStr (eLst (e2 eInt eInt))) (b27, c28)) rfl evt_n (ev_mk (d := (e2 eStr (eLst (e2 eInt eInt))) (b27, c28)) (evs_c (ev_v rfl) (evs_c (ev_call (d := (eLst (e2 eInt eInt)) c28) (evs_c (ev_v rfl) evs_n) rfl (t__law_on_ok q_c28)) evs_n)) rfl rfl) rfl rfl) q_l29 rfl) evs_n) rfl (mkd_ok eqe_str kE_str)) q_table30) rfl rfl) ?_
  refine fin_to (p' := [.ex (.im (eScr script_)), .ex (.ow ((h4 eScr eInt eInt eInt) l24.2)), .ex (.im (eInt span3)), .ex (.im (eStr w25.1)), .ex (.im (eStr w25.2)), .ex (.im ((eD false eStr (eLst (e2 eInt eInt))) table30)), .ex .un, .ex .un, .ex .un, .ex .un, .ex .un, .ex .un, .ex .un, .ex .un, .ex .un]) rfl ?_
  refine bnd h fun c31 q_c31 h => ?_
  refine bnd h fun y32 q_y32 h => ?_
  refine bnd h fun l36 q_l36 h => ?_
  refine bnd h fun b37 q_b37 h => ?_
  refine bnd h fun k38 q_k38 h => ?_
  refine ifS h (fun k h => ?_) (fun k h => ?_)
  · refine t_sifT (tk (tst_of (not_tst (tst_of (ev_call (d := eBl k38) (evs_c (ev_call (d := eBl c31) (evs_c (ev_v rfl) (evs_c (ev_v rfl) evs_n)) rfl (t_is_below_ok q_c31)) (evs_c (ev_op (d := eBl b37) (evs_c (ev_lcU (I := (e2 eInt eInt)) (O := (e2 eInt eInt)) (pw := [.ex (.im (eScr script_)), .ex (.ow ((h4 eScr eInt eInt eInt) l24.2)), .ex (.im (eInt span3)), .ex (.im (eStr w25.1)), .ex (.im (eStr w25.2)), .ex (.im ((eD false eStr (eLst (e2 eInt eInt))) table30)), .ex .un, .ex .un, .ex .un, .ex .un, .ex .un, .ex .un, .ex .un, .ex .un, .ex .un]) (it_of (g := itemsF) (evs_c (ev_op (d := (eLst (e2 eInt eInt)) y32) (evs_c (ev_v rfl) (evs_c (ev_v rfl) evs_n)) rfl (dix_ok eqe_str kE_str q_y32)) evs_n) rfl it_lst) rfl rfl (fun b33 ys h => by
          refine bnd h fun y34 q_y34 h => ?_
          refine bnd h fun b35 q_b35 h => ?_
          refine ifS h (fun k h => ?_) (fun k h => ?_)
          · cases h
            exact turnK (d1 := (e2 eInt eInt) b33) rfl (evt_t (tk (tst_of (ev_op (d := eBl (true != b35)) (evs_c (ev_v rfl) (evs_c (ev_op (d := (eLst (e2 eInt eInt)) y34) (evs_c (ev_v rfl) (evs_c (ev_v rfl) evs_n)) rfl (dix_ok eqe_str kE_str q_y34)) evs_n)) rfl (tmem_ok (eqe_2 eqe_int eqe_int) true q_b35)) rfl rfl) k)) (ev_v rfl) rfl rfl
          · cases h
            exact turnD rfl (evt_t (tk (tst_of (ev_op (d := eBl (true != b35)) (evs_c (ev_v rfl) (evs_c (ev_op (d := (eLst (e2 eInt eInt)) y34) (evs_c (ev_v rfl) (evs_c (ev_v rfl) evs_n)) rfl (dix_ok eqe_str kE_str q_y34)) evs_n)) rfl (tmem_ok (eqe_2 eqe_int eqe_int) true q_b35)) rfl rfl) k)) rfl) q_l36 rfl) (evs_c (ev_mk (d := (eLst (e2 eInt eInt)) ([] : List (Int × Int))) evs_n rfl rfl) evs_n)) rfl (teq_ok (eqe_lst (eqe_2 eqe_int eqe_int)) q_b37)) evs_n)) rfl (talike_ok q_k38)) rfl rfl)) rfl rfl) k) ?_
    refine fin_seqR (P' := fun (_ : Unit) => []) ?_
    exact fin_retE (enc := eBl) (v := false) ev_cst rfl rfl h (fun _ _ => trivial)
  · refine t_sifF (tk (tst_of (not_tst (tst_of (ev_call (d := eBl k38) (evs_c (ev_call (d := eBl c31) (evs_c (ev_v rfl) (evs_c (ev_v rfl) evs_n)) rfl (t_is_below_ok q_c31)) (evs_c (ev_op (d := eBl b37) (evs_c (ev_lcU (I := (e2 eInt eInt)) (O := (e2 eInt eInt)) (pw := [.ex (.im (eScr script_)), .ex (.ow ((h4 eScr eInt eInt eInt) l24.2)), .ex (.im (eInt span3)), .ex (.im (eStr w25.1)), .ex (.im (eStr w25.2)), .ex (.im ((eD false eStr (eLst (e2 eInt eInt))) table30)), .ex .un, .ex .un, .ex .un, .ex .un, .ex .un, .ex .un, .ex .un, .ex .un, .ex .un]) (it_of (g := itemsF) (evs_c (ev_op (d := (eLst (e2 eInt eInt)) y32) (evs_c (ev_v rfl) (evs_c (ev_v rfl) evs_n)) rfl (dix_ok eqe_str kE_str q_y32)) evs_n) rfl it_lst) rfl rfl (fun b33 ys h => by
          refine bnd h fun y34 q_y34 h => ?_
          refine bnd h fun b35 q_b35 h => ?_
          refine ifS h (fun k h => ?_) (fun k h => ?_)
          · cases h
            exact turnK (d1 := (e2 eInt eInt) b33) rfl (evt_t (tk (tst_of (ev_op (d := eBl (true != b35)) (evs_c (ev_v rfl) (evs_c (ev_op (d := (eLst (e2 eInt eInt)) y34) (evs_c (ev_v rfl) (evs_c (ev_v rfl) evs_n)) rfl (dix_ok eqe_str kE_str q_y34)) evs_n)) rfl (tmem_ok (eqe_2 eqe_int eqe_int) true q_b35)) rfl rfl) k)) (ev_v rfl) rfl rfl
          · cases h
            exact turnD rfl (evt_t (tk (tst_of (ev_op (d := eBl (true != b35)) (evs_c (ev_v rfl) (evs_c (ev_op (d := (eLst (e2 eInt eInt)) y34) (evs_c (ev_v rfl) (evs_c (ev_v rfl) evs_n)) rfl (dix_ok eqe_str kE_str q_y34)) evs_n)) rfl (tmem_ok (eqe_2 eqe_int eqe_int) true q_b35)) rfl rfl) k)) rfl) q_l36 rfl) (evs_c (ev_mk (d := (eLst (e2 eInt eInt)) ([] : List (Int × Int))) evs_n rfl rfl) evs_n)) rfl (teq_ok (eqe_lst (eqe_2 eqe_int eqe_int)) q_b37)) evs_n)) rfl (talike_ok q_k38)) rfl rfl)) rfl rfl) k) ?_
    refine fin_skip ?_
    refine bnd h fun c39 q_c39 h => ?_
    refine bnd h fun y40 q_y40 h => ?_
    refine bnd h fun k41 q_k41 h => ?_
    refine ifS h (fun k h => ?_) (fun k h => ?_)
    · refine t_sifT (tk (tst_of (not_tst (tst_of (ev_call (d := eBl k41) (evs_c (ev_call (d := eInt c39) (evs_c (ev_v rfl) evs_n) rfl (t_rank_ok q_c39)) (evs_c (ev_op (d := eInt (y40.length : Int)) (evs_c (ev_op (d := (eLst (e2 eInt eInt)) y40) (evs_c (ev_v rfl) (evs_c (ev_v rfl) evs_n)) rfl (dix_ok eqe_str kE_str q_y40)) evs_n) rfl len_lst) evs_n)) rfl (talike_ok q_k41)) rfl rfl)) rfl rfl) k) ?_
      refine fin_seqR (P' := fun (_ : Unit) => []) ?_
      exact fin_retE (enc := eBl) (v := false) ev_cst rfl rfl h (fun _ _ => trivial)
    · refine t_sifF (tk (tst_of (not_tst (tst_of (ev_call (d := eBl k41) (evs_c (ev_call (d := eInt c39) (evs_c (ev_v rfl) evs_n) rfl (t_rank_ok q_c39)) (evs_c (ev_op (d := eInt (y40.length : Int)) (evs_c (ev_op (d := (eLst (e2 eInt eInt)) y40) (evs_c (ev_v rfl) (evs_c (ev_v rfl) evs_n)) rfl (dix_ok eqe_str kE_str q_y40)) evs_n) rfl len_lst) evs_n)) rfl (talike_ok q_k41)) rfl rfl)) rfl rfl) k) ?_
      refine fin_skip ?_
      refine bnd h fun l52 q_l52 h => ?_
      refine fin_seq (nx_set (ev_lcU (I := eStr) (O := eStr) (pw := [.ex (.im (eScr script_)), .ex (.ow ((h4 eScr eInt eInt eInt) l24.2)), .ex (.im (eInt span3)), .ex (.im (eStr w25.1)), .ex (.im (eStr w25.2)), .ex (.im ((eD false eStr (eLst (e2 eInt eInt))) table30)), .ex .un, .ex .un, .ex .un, .ex .un, .ex .un, .ex .un, .ex .un, .ex .un, .ex .un]) (it_of (g := keysF) (evs_c (ev_v rfl) evs_n) rfl (it_dic (e := (eLst (e2 eInt eInt))) (l := table30) kE_str)) rfl rfl (fun b42 ys h => by
            refine bnd h fun y43 q_y43 h => ?_
            refine bnd h fun l50 q_l50 h => ?_
            refine bnd h fun b51 q_b51 h => ?_
            refine ifS h (fun k h => ?_) (fun k h => ?_)
            · cases h
              exact turnK (d1 := eStr b42) rfl (evt_t (tk (tst_of (ev_op (d := eBl b51) (evs_c (ev_lcU (I := (e2 eInt eInt)) (O := (e2 eInt eInt)) (pw := [.ex (.im (eScr script_)), .ex (.ow ((h4 eScr eInt eInt eInt) l24.2)), .ex (.im (eInt span3)), .ex (.im (eStr w25.1)), .ex (.im (eStr w25.2)), .ex (.im ((eD false eStr (eLst (e2 eInt eInt))) table30)), .ex .un, .ex .un, .ex .un, .ex .un, .ex .un, .ex .un, .ex .un, .ex (.im (eStr b42)), .ex .un]) (it_of (g := itemsF) (evs_c (ev_op (d := (eLst (e2 eInt eInt)) y43) (evs_c (ev_v rfl) (evs_c (ev_v rfl) evs_n)) rfl (dix_ok eqe_str kE_str q_y43)) evs_n) rfl it_lst) rfl rfl (fun b44 ys h => by
                    refine bnd h fun y45 q_y45 h => ?_
                    refine bnd h fun b46 q_b46 h => ?_
                    refine bnd h fun b49 q_b49 h => ?_
                    refine ifS h (fun k h => ?_) (fun k h => ?_)
                    · cases h
                      exact turnK (d1 := (e2 eInt eInt) b44) rfl (evt_t (tk (tst_orM (tst_of (ev_op (d := eBl (true != b46)) (evs_c (ev_v rfl) (evs_c (ev_op (d := (eLst (e2 eInt eInt)) y45) (evs_c (ev_v rfl) (evs_c (ev_v rfl) evs_n)) rfl (dix_ok eqe_str kE_str q_y45)) evs_n)) rfl (tmem_ok (eqe_2 eqe_int eqe_int) true q_b46)) rfl rfl) q_b49 (fun _ h => by
                        refine bnd h fun y47 q_y47 h => ?_
                        refine bnd h fun b48 q_b48 h => ?_
                        exact tst_eq (tst_of (ev_op (d := eBl (true != b48)) (evs_c (ev_v rfl) (evs_c (ev_op (d := (eLst (e2 eInt eInt)) y47) (evs_c (ev_v rfl) (evs_c (ev_v rfl) evs_n)) rfl (dix_ok eqe_str kE_str q_y47)) evs_n)) rfl (tmem_ok (eqe_2 eqe_int eqe_int) true q_b48)) rfl rfl) h)) k)) (ev_v rfl) rfl rfl
                    · cases h
                      exact turnD rfl (evt_t (tk (tst_orM (tst_of (ev_op (d := eBl (true != b46)) (evs_c (ev_v rfl) (evs_c (ev_op (d := (eLst (e2 eInt eInt)) y45) (evs_c (ev_v rfl) (evs_c (ev_v rfl) evs_n)) rfl (dix_ok eqe_str kE_str q_y45)) evs_n)) rfl (tmem_ok (eqe_2 eqe_int eqe_int) true q_b46)) rfl rfl) q_b49 (fun _ h => by
                        refine bnd h fun y47 q_y47 h => ?_
                        refine bnd h fun b48 q_b48 h => ?_
                        exact tst_eq (tst_of (ev_op (d := eBl (true != b48)) (evs_c (ev_v rfl) (evs_c (ev_op (d := (eLst (e2 eInt eInt)) y47) (evs_c (ev_v rfl) (evs_c (ev_v rfl) evs_n)) rfl (dix_ok eqe_str kE_str q_y47)) evs_n)) rfl (tmem_ok (eqe_2 eqe_int eqe_int) true q_b48)) rfl rfl) h)) k)) rfl) q_l50 rfl) (evs_c (ev_mk (d := (eLst (e2 eInt eInt)) ([] : List (Int × Int))) evs_n rfl rfl) evs_n)) rfl (teq_ok (eqe_lst (eqe_2 eqe_int eqe_int)) q_b51)) rfl rfl) k)) (ev_v rfl) rfl rfl
            · cases h
              exact turnD rfl (evt_t (tk (tst_of (ev_op (d := eBl b51) (evs_c (ev_lcU (I := (e2 eInt eInt)) (O := (e2 eInt eInt)) (pw := [.ex (.im (eScr script_)), .ex (.ow ((h4 eScr eInt eInt eInt) l24.2)), .ex (.im (eInt span3)), .ex (.im (eStr w25.1)), .ex (.im (eStr w25.2)), .ex (.im ((eD false eStr (eLst (e2 eInt eInt))) table30)), .ex .un, .ex .un, .ex .un, .ex .un, .ex .un, .ex .un, .ex .un, .ex (.im (eStr b42)), .ex .un]) (it_of (g := itemsF) (evs_c (ev_op (d := (eLst (e2 eInt eInt)) y43) (evs_c (ev_v rfl) (evs_c (ev_v rfl) evs_n)) rfl (dix_ok eqe_str kE_str q_y43)) evs_n) rfl it_lst) rfl rfl (fun b44 ys h => by
                    refine bnd h fun y45 q_y45 h => ?_
                    refine bnd h fun b46 q_b46 h => ?_
                    refine bnd h fun b49 q_b49 h => ?_
                    refine ifS h (fun k h => ?_) (fun k h => ?_)
                    · cases h
                      exact turnK (d1 := (e2 eInt eInt) b44) rfl (evt_t (tk (tst_orM (tst_of (ev_op (d := eBl (true != b46)) (evs_c (ev_v rfl) (evs_c (ev_op (d := (eLst (e2 eInt eInt)) y45) (evs_c (ev_v rfl) (evs_c (ev_v rfl) evs_n)) rfl (dix_ok eqe_str kE_str q_y45)) evs_n)) rfl (tmem_ok (eqe_2 eqe_int eqe_int) true q_b46)) rfl rfl) q_b49 (fun _ h => by
                        refine bnd h fun y47 q_y47 h => ?_
                        refine bnd h fun b48 q_b48 h => ?_
                        exact tst_eq (tst_of (ev_op (d := eBl (true != b48)) (evs_c (ev_v rfl) (evs_c (ev_op (d := (eLst (e2 eInt eInt)) y47) (evs_c (ev_v rfl) (evs_c (ev_v rfl) evs_n)) rfl (dix_ok eqe_str kE_str q_y47)) evs_n)) rfl (tmem_ok (eqe_2 eqe_int eqe_int) true q_b48)) rfl rfl) h)) k)) (ev_v rfl) rfl rfl
                    · cases h
                      exact turnD rfl (evt_t (tk (tst_orM (tst_of (ev_op (d := eBl (true != b46)) (evs_c (ev_v rfl) (evs_c (ev_op (d := (eLst (e2 eInt eInt)) y45) (evs_c (ev_v rfl) (evs_c (ev_v rfl) evs_n)) rfl (dix_ok eqe_str kE_str q_y45)) evs_n)) rfl (tmem_ok (eqe_2 eqe_int eqe_int) true q_b46)) rfl rfl) q_b49 (fun _ h => by
                        refine bnd h fun y47 q_y47 h => ?_
                        refine bnd h fun b48 q_b48 h => ?_
                        exact tst_eq (tst_of (ev_op (d := eBl (true != b48)) (evs_c (ev_v rfl) (evs_c (ev_op (d := (eLst (e2 eInt eInt)) y47) (evs_c (ev_v rfl) (evs_c (ev_v rfl) evs_n)) rfl (dix_ok eqe_str kE_str q_y47)) evs_n)) rfl (tmem_ok (eqe_2 eqe_int eqe_int) true q_b48)) rfl rfl) h)) k)) rfl) q_l50 rfl) (evs_c (ev_mk (d := (eLst (e2 eInt eInt)) ([] : List (Int × Int))) evs_n rfl rfl) evs_n)) rfl (teq_ok (eqe_lst (eqe_2 eqe_int eqe_int)) q_b51)) rfl rfl) k)) rfl) q_l52 rfl) rfl rfl) ?_
      refine fin_to (p' := [.ex (.im (eScr script_)), .ex (.ow ((h4 eScr eInt eInt eInt) l24.2)), .ex (.im (eInt span3)), .ex (.im (eStr w25.1)), .ex (.im (eStr w25.2)), .ex (.im ((eD false eStr (eLst (e2 eInt eInt))) table30)), .ex (.im ((eLst eStr) l52)), .ex .un, .ex .un, .ex .un, .ex .un, .ex .un, .ex .un, .ex .un, .ex .un]) rfl ?_
      refine bnd h fun l62 q_l62 h => ?_
      refine fin_seq (nx_set (ev_lcU (I := eStr) (O := eStr) (pw := [.ex (.im (eScr script_)), .ex (.ow ((h4 eScr eInt eInt eInt) l24.2)), .ex (.im (eInt span3)), .ex (.im (eStr w25.1)), .ex (.im (eStr w25.2)), .ex (.im ((eD false eStr (eLst (e2 eInt eInt))) table30)), .ex (.im ((eLst eStr) l52)), .ex .un, .ex .un, .ex .un, .ex .un, .ex .un, .ex .un, .ex .un, .ex .un]) (it_of (g := keysF) (evs_c (ev_v rfl) evs_n) rfl (it_dic (e := (eLst (e2 eInt eInt))) (l := table30) kE_str)) rfl rfl (fun b53 ys h => by
            refine bnd h fun y54 q_y54 h => ?_
            refine bnd h fun y55 q_y55 h => ?_
            refine bnd h fun l56 q_l56 h => ?_
            refine bnd h fun l60 q_l60 h => ?_
            refine bnd h fun b61 q_b61 h => ?_
            refine ifS h (fun k h => ?_) (fun k h => ?_)
            · cases h
              exact turnK (d1 := eStr b53) rfl (evt_t (tk (tst_of (ev_op (d := eBl b61) (evs_c (ev_lcU (I := (e2 eInt eInt)) (O := (e2 eInt eInt)) (pw := [.ex (.im (eScr script_)), .ex (.ow ((h4 eScr eInt eInt eInt) l24.2)), .ex (.im (eInt span3)), .ex (.im (eStr w25.1)), .ex (.im (eStr w25.2)), .ex (.im ((eD false eStr (eLst (e2 eInt eInt))) table30)), .ex (.im ((eLst eStr) l52)), .ex .un, .ex .un, .ex .un, .ex .un, .ex .un, .ex .un, .ex (.im (eStr b53)), .ex .un]) (it_of (g := itemsF) (evs_c (ev_op (d := (eLst (e2 eInt eInt)) l56) (evs_c (ev_op (d := (eLst (e2 eInt eInt)) y54) (evs_c (ev_v rfl) (evs_c (ev_v rfl) evs_n)) rfl (dix_ok eqe_str kE_str q_y54)) (evs_c (ev_op (d := (eLst (e2 eInt eInt)) y55) (evs_c (ev_v rfl) (evs_c (ev_v rfl) evs_n)) rfl (dix_ok eqe_str kE_str q_y55)) evs_n)) rfl (lcat_ok q_l56)) evs_n) rfl it_lst) rfl rfl (fun b57 ys h => by
                    refine bnd h fun y58 q_y58 h => ?_
                    refine bnd h fun b59 q_b59 h => ?_
                    refine ifS h (fun k h => ?_) (fun k h => ?_)
                    · cases h
                      exact turnK (d1 := (e2 eInt eInt) b57) rfl (evt_t (tk (tst_of (ev_op (d := eBl (true != b59)) (evs_c (ev_v rfl) (evs_c (ev_op (d := (eLst (e2 eInt eInt)) y58) (evs_c (ev_v rfl) (evs_c (ev_v rfl) evs_n)) rfl (dix_ok eqe_str kE_str q_y58)) evs_n)) rfl (tmem_ok (eqe_2 eqe_int eqe_int) true q_b59)) rfl rfl) k)) (ev_v rfl) rfl rfl
                    · cases h
                      exact turnD rfl (evt_t (tk (tst_of (ev_op (d := eBl (true != b59)) (evs_c (ev_v rfl) (evs_c (ev_op (d := (eLst (e2 eInt eInt)) y58) (evs_c (ev_v rfl) (evs_c (ev_v rfl) evs_n)) rfl (dix_ok eqe_str kE_str q_y58)) evs_n)) rfl (tmem_ok (eqe_2 eqe_int eqe_int) true q_b59)) rfl rfl) k)) rfl) q_l60 rfl) (evs_c (ev_mk (d := (eLst (e2 eInt eInt)) ([] : List (Int × Int))) evs_n rfl rfl) evs_n)) rfl (teq_ok (eqe_lst (eqe_2 eqe_int eqe_int)) q_b61)) rfl rfl) k)) (ev_v rfl) rfl rfl
            · cases h
              exact turnD rfl (evt_t (tk (tst_of (ev_op (d := eBl b61) (evs_c (ev_lcU (I := (e2 eInt eInt)) (O := (e2 eInt eInt)) (pw := [.ex (.im (eScr script_)), .ex (.ow ((h4 eScr eInt eInt eInt) l24.2)), .ex (.im (eInt span3)), .ex (.im (eStr w25.1)), .ex (.im (eStr w25.2)), .ex (.im ((eD false eStr (eLst (e2 eInt eInt))) table30)), .ex (.im ((eLst eStr) l52)), .ex .un, .ex .un, .ex .un, .ex .un, .ex .un, .ex .un, .ex (.im (eStr b53)), .ex .un]) (it_of (g := itemsF) (evs_c (ev_op (d := (eLst (e2 eInt eInt)) l56) (evs_c (ev_op (d := (eLst (e2 eInt eInt)) y54) (evs_c (ev_v rfl) (evs_c (ev_v rfl) evs_n)) rfl (dix_ok eqe_str kE_str q_y54)) (evs_c (ev_op (d := (eLst (e2 eInt eInt)) y55) (evs_c (ev_v rfl) (evs_c (ev_v rfl) evs_n)) rfl (dix_ok eqe_str kE_str q_y55)) evs_n)) rfl (lcat_ok q_l56)) evs_n) rfl it_lst) rfl rfl (fun b57 ys h => by
                    refine bnd h fun y58 q_y58 h => ?_
                    refine bnd h fun b59 q_b59 h => ?_
                    refine ifS h (fun k h => ?_) (fun k h => ?_)
                    · cases h
                      exact turnK (d1 := (e2 eInt eInt) b57) rfl (evt_t (tk (tst_of (ev_op (d := eBl (true != b59)) (evs_c (ev_v rfl) (evs_c (ev_op (d := (eLst (e2 eInt eInt)) y58) (evs_c (ev_v rfl) (evs_c (ev_v rfl) evs_n)) rfl (dix_ok eqe_str kE_str q_y58)) evs_n)) rfl (tmem_ok (eqe_2 eqe_int eqe_int) true q_b59)) rfl rfl) k)) (ev_v rfl) rfl rfl
                    · cases h
                      exact turnD rfl (evt_t (tk (tst_of (ev_op (d := eBl (true != b59)) (evs_c (ev_v rfl) (evs_c (ev_op (d := (eLst (e2 eInt eInt)) y58) (evs_c (ev_v rfl) (evs_c (ev_v rfl) evs_n)) rfl (dix_ok eqe_str kE_str q_y58)) evs_n)) rfl (tmem_ok (eqe_2 eqe_int eqe_int) true q_b59)) rfl rfl) k)) rfl) q_l60 rfl) (evs_c (ev_mk (d := (eLst (e2 eInt eInt)) ([] : List (Int × Int))) evs_n rfl rfl) evs_n)) rfl (teq_ok (eqe_lst (eqe_2 eqe_int eqe_int)) q_b61)) rfl rfl) k)) rfl) q_l62 rfl) rfl rfl) ?_
      refine fin_to (p' := [.ex (.im (eScr script_)), .ex (.ow ((h4 eScr eInt eInt eInt) l24.2)), .ex (.im (eInt span3)), .ex (.im (eStr w25.1)), .ex (.im (eStr w25.2)), .ex (.im ((eD false eStr (eLst (e2 eInt eInt))) table30)), .ex (.im ((eLst eStr) l52)), .ex (.im ((eLst eStr) l62)), .ex .un, .ex .un, .ex .un, .ex .un, .ex .un, .ex .un, .ex .un]) rfl ?_
      refine bnd h fun c63 q_c63 h => ?_
      refine bnd h fun c64 q_c64 h => ?_
      refine bnd h fun v65 q_v65 h => ?_
      refine fin_seq (nx_set (ev_eq (enc := (e2 eStr eStr)) (ev_mk (d := (e2 eStr eStr) (c63, c64)) (evs_c (ev_call (d := eStr c63) (evs_c (ev_v rfl) (evs_c (ev_v rfl) evs_n)) rfl (t_meet_ok q_c63)) (evs_c (ev_call (d := eStr c64) (evs_c (ev_v rfl) (evs_c (ev_v rfl) evs_n)) rfl (t_join_ok q_c64)) evs_n)) rfl rfl) q_v65) rfl rfl) ?_
      refine fin_to (p' := [.ex (.im (eScr script_)), .ex (.ow ((h4 eScr eInt eInt eInt) l24.2)), .ex (.im (eInt span3)), .ex (.im (eStr w25.1)), .ex (.im (eStr w25.2)), .ex (.im ((eD false eStr (eLst (e2 eInt eInt))) table30)), .ex (.im ((eLst eStr) l52)), .ex (.im ((eLst eStr) l62)), .ex (.im (eStr v65.1)), .ex (.im (eStr v65.2)), .ex .un, .ex .un, .ex .un, .ex .un, .ex .un]) rfl ?_
      refine bnd h fun b66 q_b66 h => ?_
      refine bnd h fun b68 q_b68 h => ?_
      refine ifS h (fun k h => ?_) (fun k h => ?_)
      · refine t_sifT (tk (tst_orM (tst_of (ev_op (d := eBl (true != b66)) (evs_c (ev_v rfl) (evs_c (ev_v rfl) evs_n)) rfl (tmem_ok eqe_str true q_b66)) rfl rfl) q_b68 (fun _ h => by
          refine bnd h fun b67 q_b67 h => ?_
          exact tst_eq (tst_of (ev_op (d := eBl (true != b67)) (evs_c (ev_v rfl) (evs_c (ev_v rfl) evs_n)) rfl (tmem_ok eqe_str true q_b67)) rfl rfl) h)) k) ?_
        refine fin_seqR (P' := fun (_ : Unit) => []) ?_
        exact fin_retE (enc := eBl) (v := false) ev_cst rfl rfl h (fun _ _ => trivial)
      · refine t_sifF (tk (tst_orM (tst_of (ev_op (d := eBl (true != b66)) (evs_c (ev_v rfl) (evs_c (ev_v rfl) evs_n)) rfl (tmem_ok eqe_str true q_b66)) rfl rfl) q_b68 (fun _ h => by
          refine bnd h fun b67 q_b67 h => ?_
          exact tst_eq (tst_of (ev_op (d := eBl (true != b67)) (evs_c (ev_v rfl) (evs_c (ev_v rfl) evs_n)) rfl (tmem_ok eqe_str true q_b67)) rfl rfl) h)) k) ?_
        refine fin_skip ?_
        refine bnd h fun l76 q_l76 h => ?_
        refine bnd h fun b77 q_b77 h => ?_
        refine ifS h (fun k h => ?_) (fun k h => ?_)
        · refine t_sifT (tk (tst_of (ev_op (d := eBl (!b77)) (evs_c (ev_lcU (I := eStr) (O := eStr) (pw := [.ex (.im (eScr script_)), .ex (.ow ((h4 eScr eInt eInt eInt) l24.2)), .ex (.im (eInt span3)), .ex (.im (eStr w25.1)), .ex (.im (eStr w25.2)), .ex (.im ((eD false eStr (eLst (e2 eInt eInt))) table30)), .ex (.im ((eLst eStr) l52)), .ex (.im ((eLst eStr) l62)), .ex (.im (eStr v65.1)), .ex (.im (eStr v65.2)), .ex .un, .ex .un, .ex .un, .ex .un, .ex .un]) (it_of (g := itemsF) (evs_c (ev_v rfl) evs_n) rfl it_lst) rfl rfl (fun b69 ys h => by
                refine bnd h fun y70 q_y70 h => ?_
                refine bnd h fun l74 q_l74 h => ?_
                refine bnd h fun b75 q_b75 h => ?_
                refine ifS h (fun k h => ?_) (fun k h => ?_)
                · cases h
                  exact turnK (d1 := eStr b69) rfl (evt_t (tk (tst_of (ev_op (d := eBl (!b75)) (evs_c (ev_lcU (I := (e2 eInt eInt)) (O := (e2 eInt eInt)) (pw := [.ex (.im (eScr script_)), .ex (.ow ((h4 eScr eInt eInt eInt) l24.2)), .ex (.im (eInt span3)), .ex (.im (eStr w25.1)), .ex (.im (eStr w25.2)), .ex (.im ((eD false eStr (eLst (e2 eInt eInt))) table30)), .ex (.im ((eLst eStr) l52)), .ex (.im ((eLst eStr) l62)), .ex (.im (eStr v65.1)), .ex (.im (eStr v65.2)), .ex .un, .ex .un, .ex .un, .ex (.im (eStr b69)), .ex .un]) (it_of (g := itemsF) (evs_c (ev_op (d := (eLst (e2 eInt eInt)) y70) (evs_c (ev_v rfl) (evs_c (ev_v rfl) evs_n)) rfl (dix_ok eqe_str kE_str q_y70)) evs_n) rfl it_lst) rfl rfl (fun b71 ys h => by
                        refine bnd h fun y72 q_y72 h => ?_
                        refine bnd h fun b73 q_b73 h => ?_
                        refine ifS h (fun k h => ?_) (fun k h => ?_)
                        · cases h
                          exact turnK (d1 := (e2 eInt eInt) b71) rfl (evt_t (tk (tst_of (ev_op (d := eBl (true != b73)) (evs_c (ev_v rfl) (evs_c (ev_op (d := (eLst (e2 eInt eInt)) y72) (evs_c (ev_v rfl) (evs_c (ev_v rfl) evs_n)) rfl (dix_ok eqe_str kE_str q_y72)) evs_n)) rfl (tmem_ok (eqe_2 eqe_int eqe_int) true q_b73)) rfl rfl) k)) (ev_v rfl) rfl rfl
                        · cases h
                          exact turnD rfl (evt_t (tk (tst_of (ev_op (d := eBl (true != b73)) (evs_c (ev_v rfl) (evs_c (ev_op (d := (eLst (e2 eInt eInt)) y72) (evs_c (ev_v rfl) (evs_c (ev_v rfl) evs_n)) rfl (dix_ok eqe_str kE_str q_y72)) evs_n)) rfl (tmem_ok (eqe_2 eqe_int eqe_int) true q_b73)) rfl rfl) k)) rfl) q_l74 rfl) (evs_c (ev_mk (d := (eLst (e2 eInt eInt)) ([] : List (Int × Int))) evs_n rfl rfl) evs_n)) rfl (tne_ok (eqe_lst (eqe_2 eqe_int eqe_int)) q_b75)) rfl rfl) k)) (ev_v rfl) rfl rfl
                · cases h
                  exact turnD rfl (evt_t (tk (tst_of (ev_op (d := eBl (!b75)) (evs_c (ev_lcU (I := (e2 eInt eInt)) (O := (e2 eInt eInt)) (pw := [.ex (.im (eScr script_)), .ex (.ow ((h4 eScr eInt eInt eInt) l24.2)), .ex (.im (eInt span3)), .ex (.im (eStr w25.1)), .ex (.im (eStr w25.2)), .ex (.im ((eD false eStr (eLst (e2 eInt eInt))) table30)), .ex (.im ((eLst eStr) l52)), .ex (.im ((eLst eStr) l62)), .ex (.im (eStr v65.1)), .ex (.im (eStr v65.2)), .ex .un, .ex .un, .ex .un, .ex (.im (eStr b69)), .ex .un]) (it_of (g := itemsF) (evs_c (ev_op (d := (eLst (e2 eInt eInt)) y70) (evs_c (ev_v rfl) (evs_c (ev_v rfl) evs_n)) rfl (dix_ok eqe_str kE_str q_y70)) evs_n) rfl it_lst) rfl rfl (fun b71 ys h => by
                        refine bnd h fun y72 q_y72 h => ?_
                        refine bnd h fun b73 q_b73 h => ?_
                        refine ifS h (fun k h => ?_) (fun k h => ?_)
                        · cases h
                          exact turnK (d1 := (e2 eInt eInt) b71) rfl (evt_t (tk (tst_of (ev_op (d := eBl (true != b73)) (evs_c (ev_v rfl) (evs_c (ev_op (d := (eLst (e2 eInt eInt)) y72) (evs_c (ev_v rfl) (evs_c (ev_v rfl) evs_n)) rfl (dix_ok eqe_str kE_str q_y72)) evs_n)) rfl (tmem_ok (eqe_2 eqe_int eqe_int) true q_b73)) rfl rfl) k)) (ev_v rfl) rfl rfl
                        · cases h
                          exact turnD rfl (evt_t (tk (tst_of (ev_op (d := eBl (true != b73)) (evs_c (ev_v rfl) (evs_c (ev_op (d := (eLst (e2 eInt eInt)) y72) (evs_c (ev_v rfl) (evs_c (ev_v rfl) evs_n)) rfl (dix_ok eqe_str kE_str q_y72)) evs_n)) rfl (tmem_ok (eqe_2 eqe_int eqe_int) true q_b73)) rfl rfl) k)) rfl) q_l74 rfl) (evs_c (ev_mk (d := (eLst (e2 eInt eInt)) ([] : List (Int × Int))) evs_n rfl rfl) evs_n)) rfl (tne_ok (eqe_lst (eqe_2 eqe_int eqe_int)) q_b75)) rfl rfl) k)) rfl) q_l76 rfl) (evs_c (ev_mk (d := (eLst eStr) ([] : List (List Nat))) evs_n rfl rfl) evs_n)) rfl (tne_ok (eqe_lst eqe_str) q_b77)) rfl rfl) k) ?_
          refine fin_seqR (P' := fun (_ : Unit) => []) ?_
          exact fin_retE (enc := eBl) (v := false) ev_cst rfl rfl h (fun _ _ => trivial)
        · refine t_sifF (tk (tst_of (ev_op (d := eBl (!b77)) (evs_c (ev_lcU (I := eStr) (O := eStr) (pw := [.ex (.im (eScr script_)), .ex (.ow ((h4 eScr eInt eInt eInt) l24.2)), .ex (.im (eInt span3)), .ex (.im (eStr w25.1)), .ex (.im (eStr w25.2)), .ex (.im ((eD false eStr (eLst (e2 eInt eInt))) table30)), .ex (.im ((eLst eStr) l52)), .ex (.im ((eLst eStr) l62)), .ex (.im (eStr v65.1)), .ex (.im (eStr v65.2)), .ex .un, .ex .un, .ex .un, .ex .un, .ex .un]) (it_of (g := itemsF) (evs_c (ev_v rfl) evs_n) rfl it_lst) rfl rfl (fun b69 ys h => by
                refine bnd h fun y70 q_y70 h => ?_
                refine bnd h fun l74 q_l74 h => ?_
                refine bnd h fun b75 q_b75 h => ?_
                refine ifS h (fun k h => ?_) (fun k h => ?_)
                · cases h
                  exact turnK (d1 := eStr b69) rfl (evt_t (tk (tst_of (ev_op (d := eBl (!b75)) (evs_c (ev_lcU (I := (e2 eInt eInt)) (O := (e2 eInt eInt)) (pw := [.ex (.im (eScr script_)), .ex (.ow ((h4 eScr eInt eInt eInt) l24.2)), .ex (.im (eInt span3)), .ex (.im (eStr w25.1)), .ex (.im (eStr w25.2)), .ex (.im ((eD false eStr (eLst (e2 eInt eInt))) table30)), .ex (.im ((eLst eStr) l52)), .ex (.im ((eLst eStr) l62)), .ex (.im (eStr v65.1)), .ex (.im (eStr v65.2)), .ex .un, .ex .un, .ex .un, .ex (.im (eStr b69)), .ex .un]) (it_of (g := itemsF) (evs_c (ev_op (d := (eLst (e2 eInt eInt)) y70) (evs_c (ev_v rfl) (evs_c (ev_v rfl) evs_n)) rfl (dix_ok eqe_str kE_str q_y70)) evs_n) rfl it_lst) rfl rfl (fun b71 ys h => by
                        refine bnd h fun y72 q_y72 h => ?_
                        refine bnd h fun b73 q_b73 h => ?_
                        refine ifS h (fun k h => ?_) (fun k h => ?_)
                        · cases h
                          exact turnK (d1 := (e2 eInt eInt) b71) rfl (evt_t (tk (tst_of (ev_op (d := eBl (true != b73)) (evs_c (ev_v rfl) (evs_c (ev_op (d := (eLst (e2 eInt eInt)) y72) (evs_c (ev_v rfl) (evs_c (ev_v rfl) evs_n)) rfl (dix_ok eqe_str kE_str q_y72)) evs_n)) rfl (tmem_ok (eqe_2 eqe_int eqe_int) true q_b73)) rfl rfl) k)) (ev_v rfl) rfl rfl
                        · cases h
                          exact turnD rfl (evt_t (tk (tst_of (ev_op (d := eBl (true != b73)) (evs_c (ev_v rfl) (evs_c (ev_op (d := (eLst (e2 eInt eInt)) y72) (evs_c (ev_v rfl) (evs_c (ev_v rfl) evs_n)) rfl (dix_ok eqe_str kE_str q_y72)) evs_n)) rfl (tmem_ok (eqe_2 eqe_int eqe_int) true q_b73)) rfl rfl) k)) rfl) q_l74 rfl) (evs_c (ev_mk (d := (eLst (e2 eInt eInt)) ([] : List (Int × Int))) evs_n rfl rfl) evs_n)) rfl (tne_ok (eqe_lst (eqe_2 eqe_int eqe_int)) q_b75)) rfl rfl) k)) (ev_v rfl) rfl rfl
                · cases h
                  exact turnD rfl (evt_t (tk (tst_of (ev_op (d := eBl (!b75)) (evs_c (ev_lcU (I := (e2 eInt eInt)) (O := (e2 eInt eInt)) (pw := [.ex (.im (eScr script_)), .ex (.ow ((h4 eScr eInt eInt eInt) l24.2)), .ex (.im (eInt span3)), .ex (.im (eStr w25.1)), .ex (.im (eStr w25.2)), .ex (.im ((eD false eStr (eLst (e2 eInt eInt))) table30)), .ex (.im ((eLst eStr) l52)), .ex (.im ((eLst eStr) l62)), .ex (.im (eStr v65.1)), .ex (.im (eStr v65.2)), .ex .un, .ex .un, .ex .un, .ex (.im (eStr b69)), .ex .un]) (it_of (g := itemsF) (evs_c (ev_op (d := (eLst (e2 eInt eInt)) y70) (evs_c (ev_v rfl) (evs_c (ev_v rfl) evs_n)) rfl (dix_ok eqe_str kE_str q_y70)) evs_n) rfl it_lst) rfl rfl (fun b71 ys h => by
                        refine bnd h fun y72 q_y72 h => ?_
                        refine bnd h fun b73 q_b73 h => ?_
                        refine ifS h (fun k h => ?_) (fun k h => ?_)
                        · cases h
                          exact turnK (d1 := (e2 eInt eInt) b71) rfl (evt_t (tk (tst_of (ev_op (d := eBl (true != b73)) (evs_c (ev_v rfl) (evs_c (ev_op (d := (eLst (e2 eInt eInt)) y72) (evs_c (ev_v rfl) (evs_c (ev_v rfl) evs_n)) rfl (dix_ok eqe_str kE_str q_y72)) evs_n)) rfl (tmem_ok (eqe_2 eqe_int eqe_int) true q_b73)) rfl rfl) k)) (ev_v rfl) rfl rfl
                        · cases h
                          exact turnD rfl (evt_t (tk (tst_of (ev_op (d := eBl (true != b73)) (evs_c (ev_v rfl) (evs_c (ev_op (d := (eLst (e2 eInt eInt)) y72) (evs_c (ev_v rfl) (evs_c (ev_v rfl) evs_n)) rfl (dix_ok eqe_str kE_str q_y72)) evs_n)) rfl (tmem_ok (eqe_2 eqe_int eqe_int) true q_b73)) rfl rfl) k)) rfl) q_l74 rfl) (evs_c (ev_mk (d := (eLst (e2 eInt eInt)) ([] : List (Int × Int))) evs_n rfl rfl) evs_n)) rfl (tne_ok (eqe_lst (eqe_2 eqe_int eqe_int)) q_b75)) rfl rfl) k)) rfl) q_l76 rfl) (evs_c (ev_mk (d := (eLst eStr) ([] : List (List Nat))) evs_n rfl rfl) evs_n)) rfl (tne_ok (eqe_lst eqe_str) q_b77)) rfl rfl) k) ?_
          refine fin_skip ?_
          refine bnd h fun l85 q_l85 h => ?_
          refine bnd h fun b86 q_b86 h => ?_
          refine ifS h (fun k h => ?_) (fun k h => ?_)
          · refine t_sifT (tk (tst_of (ev_op (d := eBl (!b86)) (evs_c (ev_lcU (I := eStr) (O := eStr) (pw := [.ex (.im (eScr script_)), .ex (.ow ((h4 eScr eInt eInt eInt) l24.2)), .ex (.im (eInt span3)), .ex (.im (eStr w25.1)), .ex (.im (eStr w25.2)), .ex (.im ((eD false eStr (eLst (e2 eInt eInt))) table30)), .ex (.im ((eLst eStr) l52)), .ex (.im ((eLst eStr) l62)), .ex (.im (eStr v65.1)), .ex (.im (eStr v65.2)), .ex .un, .ex .un, .ex .un, .ex .un, .ex .un]) (it_of (g := itemsF) (evs_c (ev_v rfl) evs_n) rfl it_lst) rfl rfl (fun b78 ys h => by
                  refine bnd h fun y79 q_y79 h => ?_
                  refine bnd h fun l83 q_l83 h => ?_
                  refine bnd h fun b84 q_b84 h => ?_
                  refine ifS h (fun k h => ?_) (fun k h => ?_)
                  · cases h
                    exact turnK (d1 := eStr b78) rfl (evt_t (tk (tst_of (ev_op (d := eBl (!b84)) (evs_c (ev_lcU (I := (e2 eInt eInt)) (O := (e2 eInt eInt)) (pw := [.ex (.im (eScr script_)), .ex (.ow ((h4 eScr eInt eInt eInt) l24.2)), .ex (.im (eInt span3)), .ex (.im (eStr w25.1)), .ex (.im (eStr w25.2)), .ex (.im ((eD false eStr (eLst (e2 eInt eInt))) table30)), .ex (.im ((eLst eStr) l52)), .ex (.im ((eLst eStr) l62)), .ex (.im (eStr v65.1)), .ex (.im (eStr v65.2)), .ex .un, .ex .un, .ex .un, .ex (.im (eStr b78)), .ex .un]) (it_of (g := itemsF) (evs_c (ev_op (d := (eLst (e2 eInt eInt)) y79) (evs_c (ev_v rfl) (evs_c (ev_v rfl) evs_n)) rfl (dix_ok eqe_str kE_str q_y79)) evs_n) rfl it_lst) rfl rfl (fun b80 ys h => by
                          refine bnd h fun y81 q_y81 h => ?_
                          refine bnd h fun b82 q_b82 h => ?_
                          refine ifS h (fun k h => ?_) (fun k h => ?_)
                          · cases h
                            exact turnK (d1 := (e2 eInt eInt) b80) rfl (evt_t (tk (tst_of (ev_op (d := eBl (true != b82)) (evs_c (ev_v rfl) (evs_c (ev_op (d := (eLst (e2 eInt eInt)) y81) (evs_c (ev_v rfl) (evs_c (ev_v rfl) evs_n)) rfl (dix_ok eqe_str kE_str q_y81)) evs_n)) rfl (tmem_ok (eqe_2 eqe_int eqe_int) true q_b82)) rfl rfl) k)) (ev_v rfl) rfl rfl
                          · cases h
                            exact turnD rfl (evt_t (tk (tst_of (ev_op (d := eBl (true != b82)) (evs_c (ev_v rfl) (evs_c (ev_op (d := (eLst (e2 eInt eInt)) y81) (evs_c (ev_v rfl) (evs_c (ev_v rfl) evs_n)) rfl (dix_ok eqe_str kE_str q_y81)) evs_n)) rfl (tmem_ok (eqe_2 eqe_int eqe_int) true q_b82)) rfl rfl) k)) rfl) q_l83 rfl) (evs_c (ev_mk (d := (eLst (e2 eInt eInt)) ([] : List (Int × Int))) evs_n rfl rfl) evs_n)) rfl (tne_ok (eqe_lst (eqe_2 eqe_int eqe_int)) q_b84)) rfl rfl) k)) (ev_v rfl) rfl rfl
                  · cases h
                    exact turnD rfl (evt_t (tk (tst_of (ev_op (d := eBl (!b84)) (evs_c (ev_lcU (I := (e2 eInt eInt)) (O := (e2 eInt eInt)) (pw := [.ex (.im (eScr script_)), .ex (.ow ((h4 eScr eInt eInt eInt) l24.2)), .ex (.im (eInt span3)), .ex (.im (eStr w25.1)), .ex (.im (eStr w25.2)), .ex (.im ((eD false eStr (eLst (e2 eInt eInt))) table30)), .ex (.im ((eLst eStr) l52)), .ex (.im ((eLst eStr) l62)), .ex (.im (eStr v65.1)), .ex (.im (eStr v65.2)), .ex .un, .ex .un, .ex .un, .ex (.im (eStr b78)), .ex .un]) (it_of (g := itemsF) (evs_c (ev_op (d := (eLst (e2 eInt eInt)) y79) (evs_c (ev_v rfl) (evs_c (ev_v rfl) evs_n)) rfl (dix_ok eqe_str kE_str q_y79)) evs_n) rfl it_lst) rfl rfl (fun b80 ys h => by
                          refine bnd h fun y81 q_y81 h => ?_
                          refine bnd h fun b82 q_b82 h => ?_
                          refine ifS h (fun k h => ?_) (fun k h => ?_)
                          · cases h
                            exact turnK (d1 := (e2 eInt eInt) b80) rfl (evt_t (tk (tst_of (ev_op (d := eBl (true != b82)) (evs_c (ev_v rfl) (evs_c (ev_op (d := (eLst (e2 eInt eInt)) y81) (evs_c (ev_v rfl) (evs_c (ev_v rfl) evs_n)) rfl (dix_ok eqe_str kE_str q_y81)) evs_n)) rfl (tmem_ok (eqe_2 eqe_int eqe_int) true q_b82)) rfl rfl) k)) (ev_v rfl) rfl rfl
                          · cases h
                            exact turnD rfl (evt_t (tk (tst_of (ev_op (d := eBl (true != b82)) (evs_c (ev_v rfl) (evs_c (ev_op (d := (eLst (e2 eInt eInt)) y81) (evs_c (ev_v rfl) (evs_c (ev_v rfl) evs_n)) rfl (dix_ok eqe_str kE_str q_y81)) evs_n)) rfl (tmem_ok (eqe_2 eqe_int eqe_int) true q_b82)) rfl rfl) k)) rfl) q_l83 rfl) (evs_c (ev_mk (d := (eLst (e2 eInt eInt)) ([] : List (Int × Int))) evs_n rfl rfl) evs_n)) rfl (tne_ok (eqe_lst (eqe_2 eqe_int eqe_int)) q_b84)) rfl rfl) k)) rfl) q_l85 rfl) (evs_c (ev_mk (d := (eLst eStr) ([] : List (List Nat))) evs_n rfl rfl) evs_n)) rfl (tne_ok (eqe_lst eqe_str) q_b86)) rfl rfl) k) ?_
            refine fin_seqR (P' := fun (_ : Unit) => []) ?_
            exact fin_retE (enc := eBl) (v := false) ev_cst rfl rfl h (fun _ _ => trivial)
          · refine t_sifF (tk (tst_of (ev_op (d := eBl (!b86)) (evs_c (ev_lcU (I := eStr) (O := eStr) (pw := [.ex (.im (eScr script_)), .ex (.ow ((h4 eScr eInt eInt eInt) l24.2)), .ex (.im (eInt span3)), .ex (.im (eStr w25.1)), .ex (.im (eStr w25.2)), .ex (.im ((eD false eStr (eLst (e2 eInt eInt))) table30)), .ex (.im ((eLst eStr) l52)), .ex (.im ((eLst eStr) l62)), .ex (.im (eStr v65.1)), .ex (.im (eStr v65.2)), .ex .un, .ex .un, .ex .un, .ex .un, .ex .un]) (it_of (g := itemsF) (evs_c (ev_v rfl) evs_n) rfl it_lst) rfl rfl (fun b78 ys h => by
                  refine bnd h fun y79 q_y79 h => ?_
                  refine bnd h fun l83 q_l83 h => ?_
                  refine bnd h fun b84 q_b84 h => ?_
                  refine ifS h (fun k h => ?_) (fun k h => ?_)
                  · cases h
                    exact turnK (d1 := eStr b78) rfl (evt_t (tk (tst_of (ev_op (d := eBl (!b84)) (evs_c (ev_lcU (I := (e2 eInt eInt)) (O := (e2 eInt eInt)) (pw := [.ex (.im (eScr script_)), .ex (.ow ((h4 eScr eInt eInt eInt) l24.2)), .ex (.im (eInt span3)), .ex (.im (eStr w25.1)), .ex (.im (eStr w25.2)), .ex (.im ((eD false eStr (eLst (e2 eInt eInt))) table30)), .ex (.im ((eLst eStr) l52)), .ex (.im ((eLst eStr) l62)), .ex (.im (eStr v65.1)), .ex (.im (eStr v65.2)), .ex .un, .ex .un, .ex .un, .ex (.im (eStr b78)), .ex .un]) (it_of (g := itemsF) (evs_c (ev_op (d := (eLst (e2 eInt eInt)) y79) (evs_c (ev_v rfl) (evs_c (ev_v rfl) evs_n)) rfl (dix_ok eqe_str kE_str q_y79)) evs_n) rfl it_lst) rfl rfl (fun b80 ys h => by
                          refine bnd h fun y81 q_y81 h => ?_
                          refine bnd h fun b82 q_b82 h => ?_
                          refine ifS h (fun k h => ?_) (fun k h => ?_)
                          · cases h
                            exact turnK (d1 := (e2 eInt eInt) b80) rfl (evt_t (tk (tst_of (ev_op (d := eBl (true != b82)) (evs_c (ev_v rfl) (evs_c (ev_op (d := (eLst (e2 eInt eInt)) y81) (evs_c (ev_v rfl) (evs_c (ev_v rfl) evs_n)) rfl (dix_ok eqe_str kE_str q_y81)) evs_n)) rfl (tmem_ok (eqe_2 eqe_int eqe_int) true q_b82)) rfl rfl) k)) (ev_v rfl) rfl rfl
                          · cases h
                            exact turnD rfl (evt_t (tk (tst_of (ev_op (d := eBl (true != b82)) (evs_c (ev_v rfl) (evs_c (ev_op (d := (eLst (e2 eInt eInt)) y81) (evs_c (ev_v rfl) (evs_c (ev_v rfl) evs_n)) rfl (dix_ok eqe_str kE_str q_y81)) evs_n)) rfl (tmem_ok (eqe_2 eqe_int eqe_int) true q_b82)) rfl rfl) k)) rfl) q_l83 rfl) (evs_c (ev_mk (d := (eLst (e2 eInt eInt)) ([] : List (Int × Int))) evs_n rfl rfl) evs_n)) rfl (tne_ok (eqe_lst (eqe_2 eqe_int eqe_int)) q_b84)) rfl rfl) k)) (ev_v rfl) rfl rfl
                  · cases h
                    exact turnD rfl (evt_t (tk (tst_of (ev_op (d := eBl (!b84)) (evs_c (ev_lcU (I := (e2 eInt eInt)) (O := (e2 eInt eInt)) (pw := [.ex (.im (eScr script_)), .ex (.ow ((h4 eScr eInt eInt eInt) l24.2)), .ex (.im (eInt span3)), .ex (.im (eStr w25.1)), .ex (.im (eStr w25.2)), .ex (.im ((eD false eStr (eLst (e2 eInt eInt))) table30)), .ex (.im ((eLst eStr) l52)), .ex (.im ((eLst eStr) l62)), .ex (.im (eStr v65.1)), .ex (.im (eStr v65.2)), .ex .un, .ex .un, .ex .un, .ex (.im (eStr b78)), .ex .un]) (it_of (g := itemsF) (evs_c (ev_op (d := (eLst (e2 eInt eInt)) y79) (evs_c (ev_v rfl) (evs_c (ev_v rfl) evs_n)) rfl (dix_ok eqe_str kE_str q_y79)) evs_n) rfl it_lst) rfl rfl (fun b80 ys h => by
                          refine bnd h fun y81 q_y81 h => ?_
                          refine bnd h fun b82 q_b82 h => ?_
                          refine ifS h (fun k h => ?_) (fun k h => ?_)
                          · cases h
                            exact turnK (d1 := (e2 eInt eInt) b80) rfl (evt_t (tk (tst_of (ev_op (d := eBl (true != b82)) (evs_c (ev_v rfl) (evs_c (ev_op (d := (eLst (e2 eInt eInt)) y81) (evs_c (ev_v rfl) (evs_c (ev_v rfl) evs_n)) rfl (dix_ok eqe_str kE_str q_y81)) evs_n)) rfl (tmem_ok (eqe_2 eqe_int eqe_int) true q_b82)) rfl rfl) k)) (ev_v rfl) rfl rfl
                          · cases h
                            exact turnD rfl (evt_t (tk (tst_of (ev_op (d := eBl (true != b82)) (evs_c (ev_v rfl) (evs_c (ev_op (d := (eLst (e2 eInt eInt)) y81) (evs_c (ev_v rfl) (evs_c (ev_v rfl) evs_n)) rfl (dix_ok eqe_str kE_str q_y81)) evs_n)) rfl (tmem_ok (eqe_2 eqe_int eqe_int) true q_b82)) rfl rfl) k)) rfl) q_l83 rfl) (evs_c (ev_mk (d := (eLst (e2 eInt eInt)) ([] : List (Int × Int))) evs_n rfl rfl) evs_n)) rfl (tne_ok (eqe_lst (eqe_2 eqe_int eqe_int)) q_b84)) rfl rfl) k)) rfl) q_l85 rfl) (evs_c (ev_mk (d := (eLst eStr) ([] : List (List Nat))) evs_n rfl rfl) evs_n)) rfl (tne_ok (eqe_lst eqe_str) q_b86)) rfl rfl) k) ?_
            refine fin_skip ?_
            refine bnd h fun y87 q_y87 h => ?_
            refine bnd h fun l91 q_l91 h => ?_
            refine fin_seq (nx_set (ev_lcU (I := (e2 eInt eInt)) (O := (e2 eInt eInt)) (pw := [.ex (.im (eScr script_)), .ex (.ow ((h4 eScr eInt eInt eInt) l24.2)), .ex (.im (eInt span3)), .ex (.im (eStr w25.1)), .ex (.im (eStr w25.2)), .ex (.im ((eD false eStr (eLst (e2 eInt eInt))) table30)), .ex (.im ((eLst eStr) l52)), .ex (.im ((eLst eStr) l62)), .ex (.im (eStr v65.1)), .ex (.im (eStr v65.2)), .ex .un, .ex .un, .ex .un, .ex .un, .ex .un]) (it_of (g := itemsF) (evs_c (ev_op (d := (eLst (e2 eInt eInt)) y87) (evs_c (ev_v rfl) (evs_c (ev_v rfl) evs_n)) rfl (dix_ok eqe_str kE_str q_y87)) evs_n) rfl it_lst) rfl rfl (fun b88 ys h => by
                  refine bnd h fun y89 q_y89 h => ?_
                  refine bnd h fun b90 q_b90 h => ?_
                  refine ifS h (fun k h => ?_) (fun k h => ?_)
                  · cases h
                    exact turnK (d1 := (e2 eInt eInt) b88) rfl (evt_t (tk (tst_of (ev_op (d := eBl (false != b90)) (evs_c (ev_v rfl) (evs_c (ev_op (d := (eLst (e2 eInt eInt)) y89) (evs_c (ev_v rfl) (evs_c (ev_v rfl) evs_n)) rfl (dix_ok eqe_str kE_str q_y89)) evs_n)) rfl (tmem_ok (eqe_2 eqe_int eqe_int) false q_b90)) rfl rfl) k)) (ev_v rfl) rfl rfl
                  · cases h
                    exact turnD rfl (evt_t (tk (tst_of (ev_op (d := eBl (false != b90)) (evs_c (ev_v rfl) (evs_c (ev_op (d := (eLst (e2 eInt eInt)) y89) (evs_c (ev_v rfl) (evs_c (ev_v rfl) evs_n)) rfl (dix_ok eqe_str kE_str q_y89)) evs_n)) rfl (tmem_ok (eqe_2 eqe_int eqe_int) false q_b90)) rfl rfl) k)) rfl) q_l91 rfl) rfl rfl) ?_
            refine fin_to (p' := [.ex (.im (eScr script_)), .ex (.ow ((h4 eScr eInt eInt eInt) l24.2)), .ex (.im (eInt span3)), .ex (.im (eStr w25.1)), .ex (.im (eStr w25.2)), .ex (.im ((eD false eStr (eLst (e2 eInt eInt))) table30)), .ex (.im ((eLst eStr) l52)), .ex (.im ((eLst eStr) l62)), .ex (.im (eStr v65.1)), .ex (.im (eStr v65.2)), .ex (.im ((eLst (e2 eInt eInt)) l91)), .ex .un, .ex .un, .ex .un, .ex .un]) rfl ?_
            refine bnd h fun y92 q_y92 h => ?_
            refine bnd h fun y93 q_y93 h => ?_
            refine bnd h fun l94 q_l94 h => ?_
            refine bnd h fun l95 q_l95 h => ?_
            refine bnd h fun y96 q_y96 h => ?_
            refine bnd h fun b97 q_b97 h => ?_
            refine bnd h fun b100 q_b100 h => ?_
            exact fin_retE (enc := eBl) (v := b100) (ev_andM (ev_op (d := eBl b97) (evs_c (ev_op (d := (eLst (e2 eInt eInt)) l95) (evs_c (ev_op (d := (eLst (e2 eInt eInt)) l94) (evs_c (ev_op (d := (eLst (e2 eInt eInt)) y92) (evs_c (ev_v rfl) (evs_c (ev_v rfl) evs_n)) rfl (dix_ok eqe_str kE_str q_y92)) (evs_c (ev_op (d := (eLst (e2 eInt eInt)) y93) (evs_c (ev_v rfl) (evs_c (ev_v rfl) evs_n)) rfl (dix_ok eqe_str kE_str q_y93)) evs_n)) rfl (lcat_ok q_l94)) evs_n) rfl (tss_ok q_l95)) (evs_c (ev_op (d := (eLst (e2 eInt eInt)) y96) (evs_c (ev_v rfl) (evs_c (ev_v rfl) evs_n)) rfl (dix_ok eqe_str kE_str q_y96)) evs_n)) rfl (teq_ok (eqe_lst (eqe_2 eqe_int eqe_int)) q_b97)) q_b100 (fun _ h => by
              refine bnd h fun y98 q_y98 h => ?_
              refine bnd h fun b99 q_b99 h => ?_
              exact ev_eq (ev_op (d := eBl b99) (evs_c (ev_v rfl) (evs_c (ev_op (d := (eLst (e2 eInt eInt)) y98) (evs_c (ev_v rfl) (evs_c (ev_v rfl) evs_n)) rfl (dix_ok eqe_str kE_str q_y98)) evs_n)) rfl (teq_ok (eqe_lst (eqe_2 eqe_int eqe_int)) q_b99)) h)) rfl rfl h (fun _ _ => trivial)
end Mi.T

namespace Mi.T
open PySem PySem.Spec PyProof.Rows L2 GxR
/-! ### what a law draws -/
abbrev Row := (List Int) × Int × Int × Int
def ROk (r : Row) : Prop := 0 ≤ r.2.1
def Mem (m : List Nat) : Prop := ∀ c ∈ m, c = 48 ∨ c = 49
def Inp (s : List Nat) : Prop := ∀ c ∈ s, c = 117 ∨ c = 100
theorem fmod_nn (a : Int) {m : Int} (h : 1 ≤ m) : 0 ≤ a.fmod m := by
  rw [Int.fmod_eq_emod_of_nonneg a (by omega)]
  exact Int.emod_nonneg a (by omega)
theorem fmod_lt (a : Int) {m : Int} (h : 1 ≤ m) : a.fmod m < m := Int.fmod_lt_of_pos a (by omega)
theorem bind_of {α β : Type} {t : Option α} {a : α} {k : α → Option β} (h : t = some a) : t.bind k = k a := by rw [h]; rfl
theorem ifmod_of (a : Int) {m : Int} (h : 1 ≤ m) : ifmod a m = some (a.fmod m) := if_pos (by omega)
theorem ifdiv_of (a : Int) {m : Int} (h : 1 ≤ m) (h2 : m < 1073741824) : ifdiv a m = some (a.fdiv m) := if_pos (by omega)
theorem atI_of {α : Type} (l : List α) {i : Int} (h0 : 0 ≤ i) (h1 : i < l.length) : atI l i = some (l[i.toNat]'(by omega)) := atI_pos h0 h1
theorem taken_spec {r : Row} (h : ROk r) {m : Int} (hm : 1 ≤ m) (hm2 : m < 1073741824) : ∃ w, t__law_taken r m = some w ∧ 0 ≤ w.1 ∧ w.1 < m ∧ ROk w.2 := by
  obtain ⟨ns, p, s, q⟩ := r
  have h : 0 ≤ p := h
  unfold t__law_taken
  simp only [ifmod_of _ hm, ifdiv_of _ hm hm2, Option.bind_some]
  by_cases h1 : 0 < q
  · simp only [h1, decide_true, if_true]
    exact ⟨_, rfl, fmod_nn _ hm, fmod_lt _ hm, h⟩
  · simp only [h1, decide_false, Bool.false_eq_true, if_false]
    by_cases h2 : (ns.length : Int) < p + 1
    · simp only [h2, decide_true, if_true]
      exact ⟨_, rfl, fmod_nn _ hm, fmod_lt _ hm, by show 0 ≤ p + 1; omega⟩
    · simp only [h2, decide_false, Bool.false_eq_true, if_false]
      rw [show p + 1 - 1 = p by omega, atI_of ns h (by omega)]
      simp only [Option.bind_some]
      generalize ns[p.toNat]'(by omega) = c
      by_cases h3 : ((10 : Int) ^ (18 : Nat)) ≤ c
      · rw [if_pos (by simpa using h3)]
        exact ⟨_, rfl, fmod_nn _ hm, fmod_lt _ hm, by show 0 ≤ p + 1; omega⟩
      · rw [if_neg (by simpa using h3)]
        exact ⟨_, rfl, fmod_nn _ hm, fmod_lt _ hm, by show 0 ≤ p + 1; omega⟩
theorem row0 (ns : List Int) (s : Int) : ROk (ns, 0, s, 0) := Int.le_refl 0
theorem len_nil : ∀ {s : List Nat}, s.length ≤ 16000000 → slen s = some (s.length : Int) := fun h => if_pos h
theorem pick_s {r : Row} (h : ROk r) {s : List Nat} (hs : 1 ≤ s.length) (hs2 : s.length < 16000000) : ∃ (c : Nat) (r' : Row), t__law_pick_s r s = some ([c], r') ∧ c ∈ s ∧ ROk r' := by
  obtain ⟨w, h1, h2, h3, h4⟩ := taken_spec h (m := s.length) (by omega) (by omega)
  unfold t__law_pick_s
  rw [len_nil (by omega)]
  simp only [Option.bind_some, h1]
  unfold sat
  rw [if_pos (by omega), atI_of s h2 h3]
  exact ⟨_, _, rfl, List.getElem_mem _, h4⟩
theorem tcmpS_inv {β τ σ : Type} {t : β → σ → Option (List τ × σ)} (Inv : σ → Prop) (P : τ → Prop) (step : ∀ b s, Inv s → ∃ y s', t b s = some ([y], s') ∧ Inv s' ∧ P y) (l : List β) (s : σ) (h : Inv s) (hl : l.length ≤ 16000000) :
    ∃ ys s', tcmpS t l s = some (ys, s') ∧ Inv s' ∧ ys.length = l.length ∧ ∀ y ∈ ys, P y := by
  have key : ∀ (l : List β) (s : σ), Inv s → ∃ ys s', cmpL t l s = some (ys, s') ∧ Inv s' ∧ ys.length = l.length ∧ ∀ y ∈ ys, P y := by
    intro l
    induction l with
    | nil => exact fun s h => ⟨[], s, rfl, h, rfl, fun y hy => by cases hy⟩
    | cons b l ih =>
      intro s h
      obtain ⟨y, s1, h1, h2, h3⟩ := step b s h
      obtain ⟨ys, s2, k1, k2, k3, k4⟩ := ih s1 h2
      refine ⟨y :: ys, s2, ?_, k2, by rw [List.length_cons, List.length_cons, k3], fun z hz => ?_⟩
      · unfold cmpL
        rw [h1]
        show (cmpL t l s1).bind _ = _
        rw [k1]
        rfl
      · rcases List.mem_cons.mp hz with rfl | hz
        · exact h3
        · exact k4 z hz
  obtain ⟨ys, s', h1, h2, h3, h4⟩ := key l s h
  refine ⟨ys, s', ?_, h2, h3, h4⟩
  unfold tcmpS
  rw [h1]
  show (lenOk ys).bind _ = _
  unfold lenOk
  rw [if_pos (by omega)]
  rfl
theorem fld_inv {β σ : Type} {t : β → σ → Option σ} (Inv : List β → σ → Prop) (step : ∀ b l s, Inv (b :: l) s → ∃ s', t b s = some s' ∧ Inv l s') : ∀ (l : List β) (s : σ), Inv l s → ∃ s', fld t l s = some s' ∧ Inv [] s'
  | [], s, h => ⟨s, rfl, h⟩
  | b :: l, s, h => by
    obtain ⟨s1, h1, h2⟩ := step b l s h
    obtain ⟨s2, k1, k2⟩ := fld_inv Inv step l s1 h2
    exact ⟨s2, by unfold fld; rw [h1]; exact k1, k2⟩
theorem fld_inv' {β σ : Type} {t : β → σ → Option σ} {l : List β} {s : σ} {F : Option σ} (hF : fld t l s = F) (Inv : List β → σ → Prop) (h : Inv l s) (step : ∀ b l s, Inv (b :: l) s → ∃ s', t b s = some s' ∧ Inv l s') : ∃ s', F = some s' ∧ Inv [] s' := hF ▸ fld_inv Inv step l s h
/-- a loop that never fails is a fold -/
theorem fld_fold {β σ : Type} {t : β → σ → Option σ} (g : σ → β → σ) (P : List β → σ → Prop) (step : ∀ b l s, P (b :: l) s → t b s = some (g s b) ∧ P l (g s b)) : ∀ (l : List β) (s : σ), P l s → fld t l s = some (l.foldl g s)
  | [], s, _ => rfl
  | b :: l, s, h => by
    obtain ⟨h1, h2⟩ := step b l s h
    unfold fld
    rw [h1]
    exact fld_fold g P step l (g s b) h2
theorem fld_fold' {β σ : Type} {t : β → σ → Option σ} {l : List β} {s : σ} {F : Option σ} (hF : fld t l s = F) (g : σ → β → σ) (P : List β → σ → Prop) (h : P l s) (step : ∀ b l s, P (b :: l) s → t b s = some (g s b) ∧ P l (g s b)) : F = some (l.foldl g s) := hF ▸ fld_fold g P step l s h
theorem irange_len (a : Int) (n : Nat) : (irange a n).length = n := by
  unfold irange
  rw [List.length_map, List.length_range]
theorem range1_of {n : Int} (h : n < 1000000000) (h2 : -1000000000 ≤ n) : trange1 n = some (irange 0 n.toNat) := if_pos (by omega)
theorem range2_of {a b : Int} (h : a < 1000000000) (h2 : -1000000000 ≤ a) (h3 : b < 1000000000) (h4 : -1000000000 ≤ b) : trange2 a b = some (irange a (b - a).toNat) := if_pos (by omega)
theorem rep1_of (c : Nat) {n : Int} (h0 : 0 ≤ n) (h1 : n ≤ 1000000) : rep [c] n = some (List.replicate n.toNat c) := by
  have e : ∀ k : Nat, (List.replicate k [c]).flatten = List.replicate k c := fun k => by
    induction k with
    | zero => rfl
    | succ k ih => rw [List.replicate_succ, List.flatten_cons, ih, List.replicate_succ]; rfl
  unfold rep
  rw [if_pos ⟨by omega, by omega, by simp; omega⟩, e]
theorem scat_of {a b : List Nat} (h : a.length + b.length ≤ 16000000) : scat a b = some (a ++ b) := if_pos h
theorem lcat_of {α : Type} {a b : List α} (h : a.length + b.length ≤ 16000000) : lcat a b = some (a ++ b) := if_pos h
theorem tapp_of {α : Type} {l : List α} {x : α} (h : l.length < 16000000) : tapp l x = some (l ++ [x]) := if_pos h
theorem lenOk_of {α : Type} {l : List α} (h : l.length ≤ 16000000) : lenOk l = some l := if_pos h
theorem tmap_of {β τ : Type} {f : β → τ} {l : List β} (h : l.length ≤ 16000000) : tmap f l = some (l.map f) := lenOk_of (by rw [List.length_map]; exact h)
theorem tfil_of {β τ : Type} {c : β → Bool} {f : β → τ} {l : List β} (h : l.length ≤ 16000000) : tfil c f l = some ((l.filter c).map f) := lenOk_of (by rw [List.length_map]; exact Nat.le_trans (List.length_filter_le ..) h)
/-- a comprehension whose turns never fail -/
theorem cmp_of {β τ : Type} {t : β → Option (List τ)} {g : β → List τ} : ∀ {l : List β}, (∀ b ∈ l, t b = some (g b)) → cmp t l = some (l.flatMap g)
  | [], _ => rfl
  | b :: l, h => by
    unfold cmp
    rw [h b List.mem_cons_self, cmp_of (l := l) fun c hc => h c (List.mem_cons_of_mem _ hc)]
    rfl
theorem tcmp_of {β τ : Type} {t : β → Option (List τ)} {g : β → List τ} {l : List β} (h : ∀ b ∈ l, t b = some (g b)) (hl : (l.flatMap g).length ≤ 16000000) : tcmp t l = some (l.flatMap g) := by
  unfold tcmp
  rw [cmp_of h]
  exact lenOk_of hl
theorem mem_replicate {n : Nat} {c : Nat} (h : c = 48 ∨ c = 49) : Mem (List.replicate n c) := fun d hd => by rw [(List.mem_replicate.mp hd).2]; exact h
theorem join1 : ∀ l : List Nat, joinL' [] (chars l) = l
  | [] => rfl
  | [c] => rfl
  | c :: b :: l => by
    have ih := join1 (b :: l)
    show [c] ++ ([] ++ joinL' [] (chars (b :: l))) = _
    rw [ih]
    rfl
theorem chars_len (s : List Nat) : (chars s).length = s.length := List.length_map ..
theorem lens1 : ∀ l : List Nat, ((chars l).map List.length).sum = l.length
  | [] => rfl
  | c :: l => by
    show (1 + ((chars l).map List.length).sum) = _
    rw [lens1 l, List.length_cons]
    omega
theorem sjoin_chars {l : List Nat} (h : l.length ≤ 16000000) : sjoin [] (chars l) = some l := by
  unfold sjoin
  rw [lens1, if_pos (by simpa using h), join1]
theorem chars_of : ∀ (ys : List (List Nat)) (P : Nat → Prop), (∀ y ∈ ys, ∃ c, y = [c] ∧ P c) → ∃ l : List Nat, ys = chars l ∧ ∀ c ∈ l, P c
  | [], _, _ => ⟨[], rfl, fun c hc => by cases hc⟩
  | y :: ys, P, h => by
    obtain ⟨c, rfl, hc⟩ := h y List.mem_cons_self
    obtain ⟨l, rfl, h2⟩ := chars_of ys P fun z hz => h z (List.mem_cons_of_mem _ hz)
    refine ⟨c :: l, rfl, fun b hb => ?_⟩
    rcases List.mem_cons.mp hb with rfl | hb
    · exact hc
    · exact h2 b hb
/-- a word of drawn signs -/
theorem word_spec {r : Row} (h : ROk r) {n : Nat} (hn : n ≤ 1000000) {β : Type} (l : List β) (hl : l.length = n) : ∃ (ys : List (List Nat)) (r' : Row), tcmpS (fun (_ : β) (s : Row) => (t__law_pick_s s [48, 49]).bind fun w => some ([w.1], w.2)) l r = some (ys, r') ∧ ROk r' ∧ ∃ m : List Nat, ys = chars m ∧ m.length = n ∧ Mem m := by
  obtain ⟨ys, r', h1, h2, h3, h4⟩ := tcmpS_inv (t := fun (_ : β) (s : Row) => (t__law_pick_s s [48, 49]).bind fun w => some ([w.1], w.2)) ROk (fun y => ∃ c, y = [c] ∧ (c = 48 ∨ c = 49)) (fun b s hs => by
    obtain ⟨c, r1, p1, p2, p3⟩ := pick_s hs (s := [48, 49]) (by simp) (by simp)
    exact ⟨[c], r1, by rw [p1]; rfl, p3, c, rfl, by simpa using p2⟩) l r h (by omega)
  obtain ⟨m, rfl, h6⟩ := chars_of ys _ h4
  rw [chars_len] at h3
  exact ⟨_, r', h1, h2, m, rfl, by omega, h6⟩
theorem need_memory_spec {m : List Nat} (hm : Mem m) (h1 : 1 ≤ m.length) (h2 : m.length ≤ 9) : t_need_memory m = some () := by
  have e2 : (m.all fun c => decide (c ∈ ((⟨#[48, 49]⟩ : Str)).cps.toList)) = true := List.all_eq_true.mpr fun c hc => by
    rcases hm c hc with rfl | rfl <;> decide
  unfold t_need_memory t_is_memory
  rw [len_nil (by omega)]
  simp only [Option.bind_some, e2]
  have k1 : (1 : Int) ≤ m.length := by omega
  have k2 : (m.length : Int) ≤ 9 := by omega
  simp [k1, k2, show 1 ≤ m.length from h1, show m.length ≤ 9 from h2, show m ≠ [] from fun z => by rw [z] at h1; simp at h1]
/-! ### all memories, one by one -/
def memsN : Nat → List (List Nat)
  | 0 => [[]]
  | n + 1 => (memsN n).flatMap fun m => [48 :: m, 49 :: m]
theorem mems_all : ∀ {n : Nat} {m : List Nat}, Mem m → m.length = n → m ∈ memsN n
  | 0, [], _, _ => List.mem_singleton.mpr rfl
  | 0, _ :: _, _, h => by cases h
  | n + 1, [], _, h => by cases h
  | n + 1, a :: m, hm, h => by
    have ih := mems_all (n := n) (m := m) (fun c hc => hm c (List.mem_cons_of_mem _ hc)) (Nat.succ.inj h)
    refine List.mem_flatMap.mpr ⟨m, ih, ?_⟩
    rcases hm a List.mem_cons_self with rfl | rfl
    · exact List.mem_cons_self
    · exact List.mem_cons_of_mem _ List.mem_cons_self
def okT (o : Option Bool) : Bool := match o with
  | some true => true
  | _ => false
theorem okT_eq {o : Option Bool} (h : okT o = true) : o = some true := by
  unfold okT at h
  split at h
  · rfl
  · cases h
theorem fin_mem {f : List Nat → Option Bool} {n : Nat} (h : ((memsN n).all fun m => okT (f m)) = true) {m : List Nat} (hm : Mem m) (hl : m.length = n) : f m = some true := okT_eq (List.all_eq_true.mp h m (mems_all hm hl))
theorem all_mems {P : List Nat → Prop} {n : Nat} (h : ∀ m ∈ memsN n, P m) : ∀ m, Mem m → m.length = n → P m := fun m hm hl => h m (mems_all hm hl)
theorem bind_pair {α β γ : Type} {t : Option (α × β)} {a : α} {b : β} {k : α × β → Option γ} {r : Option γ} (h : t = some (a, b)) (f : ∀ w : α × β, w.1 = a → w.2 = b → k w = r) : t.bind k = r := by
  rw [h]
  exact f (a, b) rfl rfl
theorem mems_cut {f : List Nat → Option Bool} {a b : Nat} {m : List Nat} (hm : Mem m) (hl : m.length = a + b) (h : ∀ p ∈ memsN a, ((memsN b).all fun m => okT (f (p ++ m))) = true) : f m = some true := by
  have h1 : m.take a ∈ memsN a := mems_all (fun c hc => hm c (List.mem_of_mem_take hc)) (by rw [List.length_take]; omega)
  have h2 : m.drop a ∈ memsN b := mems_all (fun c hc => hm c (List.mem_of_mem_drop hc)) (by rw [List.length_drop]; omega)
  have := List.all_eq_true.mp (h _ h1) _ h2
  rw [List.take_append_drop] at this
  exact okT_eq this
theorem mems_cutB {f : List Nat → Bool} {a b : Nat} {m : List Nat} (hm : Mem m) (hl : m.length = a + b) (h : ∀ p ∈ memsN a, ((memsN b).all fun m => f (p ++ m)) = true) : f m = true := by
  have h1 : m.take a ∈ memsN a := mems_all (fun c hc => hm c (List.mem_of_mem_take hc)) (by rw [List.length_take]; omega)
  have h2 : m.drop a ∈ memsN b := mems_all (fun c hc => hm c (List.mem_of_mem_drop hc)) (by rw [List.length_drop]; omega)
  have := List.all_eq_true.mp (h _ h1) _ h2
  rw [List.take_append_drop] at this
  exact this
/-! ### numbers of ones of beginnings -/
def one01 (a : Nat) : Int := if a = 49 then 1 else 0
def cn : Int → List Nat → List Int
  | _, [] => []
  | h, a :: m => (h + one01 a) :: cn (h + one01 a) m
def fc : Int → List Int → List Nat
  | _, [] => []
  | b, x :: l => (if b < x then 49 else 48) :: fc x l
theorem cn_len : ∀ (m : List Nat) (h : Int), (cn h m).length = m.length
  | [], _ => rfl
  | a :: m, h => congrArg Nat.succ (cn_len m _)
theorem fc_len : ∀ (l : List Int) (b : Int), (fc b l).length = l.length
  | [], _ => rfl
  | a :: m, h => congrArg Nat.succ (fc_len m _)
theorem fc_mem : ∀ (l : List Int) (b : Int), Mem (fc b l)
  | [], _, c, h => by cases h
  | x :: l, b, c, h => by
    unfold fc at h
    rcases List.mem_cons.mp h with rfl | h
    · split
      · exact .inr rfl
      · exact .inl rfl
    · exact fc_mem l x c h
theorem mem_tail {a : Nat} {m : List Nat} (h : Mem (a :: m)) : Mem m := fun c hc => h c (List.mem_cons_of_mem _ hc)
theorem one_cases {a : Nat} (h : a = 48 ∨ a = 49) : (a = 48 ∧ one01 a = 0) ∨ (a = 49 ∧ one01 a = 1) := by
  rcases h with rfl | rfl
  · exact .inl ⟨rfl, rfl⟩
  · exact .inr ⟨rfl, rfl⟩
theorem fc_cn : ∀ {m : List Nat} (h : Int), Mem m → fc h (cn h m) = m
  | [], _, _ => rfl
  | a :: m, h, hm => by
    unfold cn fc
    rw [fc_cn _ (mem_tail hm)]
    rcases one_cases (hm a List.mem_cons_self) with ⟨e, e2⟩ | ⟨e, e2⟩
    · rw [e2, if_neg (by omega), e]
    · rw [e2, if_pos (by omega), e]
/-- step by step by nothing or one -/
def Stair : Int → List Int → Prop
  | _, [] => True
  | b, x :: l => (x = b ∨ x = b + 1) ∧ Stair x l
theorem cn_stair : ∀ {m : List Nat} (h : Int), Mem m → Stair h (cn h m)
  | [], _, _ => trivial
  | a :: m, h, hm => by
    refine ⟨?_, cn_stair _ (mem_tail hm)⟩
    rcases one_cases (hm a List.mem_cons_self) with ⟨_, e⟩ | ⟨_, e⟩
    · rw [e]; exact .inl (by omega)
    · rw [e]; exact .inr rfl
theorem cn_fc : ∀ {l : List Int} {b : Int}, Stair b l → cn b (fc b l) = l
  | [], _, _ => rfl
  | x :: l, b, h => by
    unfold fc cn
    have e : b + one01 (if b < x then 49 else 48) = x := by
      rcases h.1 with e | e
      · rw [if_neg (by omega), e]; exact Int.add_zero b
      · rw [if_pos (by omega), e]; rfl
    rw [e, cn_fc h.2]
theorem cn_inj {a b : List Nat} (ha : Mem a) (hb : Mem b) (h : cn 0 a = cn 0 b) : a = b := by
  rw [← fc_cn 0 ha, h, fc_cn 0 hb]
def mn : List Int → List Int → List Int
  | x :: l, y :: m => imin x y :: mn l m
  | _, _ => []
def mx : List Int → List Int → List Int
  | x :: l, y :: m => imax x y :: mx l m
  | _, _ => []
theorem mn_map : ∀ l m : List Int, (l.zip m).map (fun b => imin b.1 b.2) = mn l m
  | [], m => by cases m <;> rfl
  | _ :: _, [] => rfl
  | x :: l, y :: m => congrArg _ (mn_map l m)
theorem mx_map : ∀ l m : List Int, (l.zip m).map (fun b => imax b.1 b.2) = mx l m
  | [], m => by cases m <;> rfl
  | _ :: _, [] => rfl
  | x :: l, y :: m => congrArg _ (mx_map l m)
theorem mn_stair : ∀ {l m : List Int} {a b : Int}, Stair a l → Stair b m → Stair (imin a b) (mn l m)
  | [], m, _, _, _, _ => by cases m <;> exact trivial
  | _ :: _, [], _, _, _, _ => trivial
  | x :: l, y :: m, a, b, h, k => by
    refine ⟨?_, mn_stair h.2 k.2⟩
    have h1 := h.1
    have k1 := k.1
    unfold imin
    split <;> split <;> omega
theorem mx_stair : ∀ {l m : List Int} {a b : Int}, Stair a l → Stair b m → Stair (imax a b) (mx l m)
  | [], m, _, _, _, _ => by cases m <;> exact trivial
  | _ :: _, [], _, _, _, _ => trivial
  | x :: l, y :: m, a, b, h, k => by
    refine ⟨?_, mx_stair h.2 k.2⟩
    have h1 := h.1
    have k1 := k.1
    unfold imax
    split <;> split <;> omega
theorem mn_len : ∀ {l m : List Int}, l.length = m.length → (mn l m).length = l.length
  | [], [], _ => rfl
  | [], _ :: _, h => by cases h
  | _ :: _, [], h => by cases h
  | x :: l, y :: m, h => congrArg Nat.succ (mn_len (Nat.succ.inj h))
theorem mx_len : ∀ {l m : List Int}, l.length = m.length → (mx l m).length = l.length
  | [], [], _ => rfl
  | [], _ :: _, h => by cases h
  | _ :: _, [], h => by cases h
  | x :: l, y :: m, h => congrArg Nat.succ (mx_len (Nat.succ.inj h))
def meetL (a b : List Nat) : List Nat := fc 0 (mn (cn 0 a) (cn 0 b))
def joinM (a b : List Nat) : List Nat := fc 0 (mx (cn 0 a) (cn 0 b))
/-- a memory of a span -/
def Mm (n : Nat) (m : List Nat) : Prop := Mem m ∧ m.length = n
theorem cn_meet {a b : List Nat} (ha : Mem a) (hb : Mem b) : cn 0 (meetL a b) = mn (cn 0 a) (cn 0 b) := cn_fc (mn_stair (a := 0) (b := 0) (cn_stair 0 ha) (cn_stair 0 hb))
theorem cn_join {a b : List Nat} (ha : Mem a) (hb : Mem b) : cn 0 (joinM a b) = mx (cn 0 a) (cn 0 b) := cn_fc (mx_stair (a := 0) (b := 0) (cn_stair 0 ha) (cn_stair 0 hb))
theorem meet_mm {n : Nat} {a b : List Nat} (ha : Mm n a) (hb : Mm n b) : Mm n (meetL a b) := ⟨fc_mem _ _, by
  unfold meetL
  rw [fc_len, mn_len (by rw [cn_len, cn_len, ha.2, hb.2]), cn_len, ha.2]⟩
theorem join_mm {n : Nat} {a b : List Nat} (ha : Mm n a) (hb : Mm n b) : Mm n (joinM a b) := ⟨fc_mem _ _, by
  unfold joinM
  rw [fc_len, mx_len (by rw [cn_len, cn_len, ha.2, hb.2]), cn_len, ha.2]⟩
/-! laws of lists -/
theorem mn_mx : ∀ a b c : List Int, mn a (mx b c) = mx (mn a b) (mn a c)
  | [], b, c => by cases b <;> cases c <;> rfl
  | _ :: _, [], c => by cases c <;> rfl
  | _ :: _, _ :: _, [] => rfl
  | x :: a, y :: b, z :: c => by
    simp only [mn, mx, mn_mx a b c]
    congr 1
    unfold imin imax
    repeat' split
    all_goals omega
theorem mx_mn : ∀ a b c : List Int, mx a (mn b c) = mn (mx a b) (mx a c)
  | [], b, c => by cases b <;> cases c <;> rfl
  | _ :: _, [], c => by cases c <;> rfl
  | _ :: _, _ :: _, [] => rfl
  | x :: a, y :: b, z :: c => by
    simp only [mn, mx, mx_mn a b c]
    congr 1
    unfold imin imax
    repeat' split
    all_goals omega
theorem mn_comm : ∀ a b : List Int, mn a b = mn b a
  | [], b => by cases b <;> rfl
  | _ :: _, [] => rfl
  | x :: a, y :: b => by
    simp only [mn, mn_comm a b]
    congr 1
    unfold imin
    repeat' split
    all_goals omega
theorem mx_assoc : ∀ a b c : List Int, mx a (mx b c) = mx (mx a b) c
  | [], b, c => by cases b <;> cases c <;> rfl
  | _ :: _, [], c => by cases c <;> rfl
  | _ :: _, _ :: _, [] => rfl
  | x :: a, y :: b, z :: c => by
    simp only [mx, mx_assoc a b c]
    congr 1
    unfold imax
    repeat' split
    all_goals omega
theorem mn_abs : ∀ a b : List Int, a.length = b.length → mn a (mx a b) = a
  | [], [], _ => rfl
  | [], _ :: _, h => by cases h
  | _ :: _, [], h => by cases h
  | x :: a, y :: b, h => by
    simp only [mn, mx, mn_abs a b (Nat.succ.inj h)]
    congr 1
    unfold imin imax
    repeat' split
    all_goals omega
theorem mx_abs : ∀ a b : List Int, a.length = b.length → mx a (mn a b) = a
  | [], [], _ => rfl
  | [], _ :: _, h => by cases h
  | _ :: _, [], h => by cases h
  | x :: a, y :: b, h => by
    simp only [mn, mx, mx_abs a b (Nat.succ.inj h)]
    congr 1
    unfold imin imax
    repeat' split
    all_goals omega
theorem mn_self : ∀ a : List Int, mn a a = a
  | [] => rfl
  | x :: a => by
    simp only [mn, mn_self a]
    congr 1
    unfold imin
    split <;> rfl
/-! turned upside down -/
def flipL (m : List Nat) : List Nat := m.map fun c => if c = 48 then 49 else 48
theorem flip_mm {n : Nat} {a : List Nat} (ha : Mm n a) : Mm n (flipL a) := ⟨fun c hc => by
  obtain ⟨d, _, rfl⟩ := List.mem_map.mp hc
  by_cases z : d = 48
  · rw [if_pos z]; exact .inr rfl
  · rw [if_neg z]; exact .inl rfl, by unfold flipL; rw [List.length_map, ha.2]⟩
def sub : Int → List Int → List Int
  | _, [] => []
  | j, x :: l => (j + 1 - x) :: sub (j + 1) l
theorem cn_flip : ∀ {m : List Nat} (j h : Int), Mem m → cn (j - h) (flipL m) = sub j (cn h m)
  | [], _, _, _ => rfl
  | a :: m, j, h, hm => by
    show cn (j - h) ((if a = 48 then 49 else 48) :: flipL m) = _
    unfold cn sub
    have e : j - h + one01 (if a = 48 then 49 else 48) = j + 1 - (h + one01 a) := by
      rcases one_cases (hm a List.mem_cons_self) with ⟨e, e2⟩ | ⟨e, e2⟩
      · rw [e2, if_pos e]; show j - h + 1 = _; omega
      · rw [e2, if_neg (by omega)]; show j - h + 0 = _; omega
    rw [e, cn_flip (j + 1) (h + one01 a) (mem_tail hm)]
theorem sub_mn : ∀ (a b : List Int) (j : Int), sub j (mn a b) = mx (sub j a) (sub j b)
  | [], b, j => by cases b <;> rfl
  | _ :: _, [], j => rfl
  | x :: a, y :: b, j => by
    simp only [sub, mn, mx, sub_mn a b (j + 1)]
    congr 1
    unfold imin imax
    repeat' split
    all_goals omega
def leB (a b : List Int) : Bool := (a.zip b).all fun q => decide (q.1 ≤ q.2)
theorem sub_le : ∀ (a b : List Int) (j : Int), leB (sub j b) (sub j a) = leB a b
  | [], b, j => by cases b <;> rfl
  | _ :: _, [], j => rfl
  | x :: a, y :: b, j => by
    have ih := sub_le a b (j + 1)
    unfold leB at ih ⊢
    simp only [sub, List.zip_cons_cons, List.all_cons, ih]
    congr 1
    rw [decide_eq_decide]
    omega
theorem sum_sub : ∀ (a : List Int) (j : Int), 2 * (a.sum + (sub j a).sum) = a.length * (2 * j + a.length + 1)
  | [], j => by simp [sub]
  | x :: a, j => by
    have ih := sum_sub a (j + 1)
    simp only [sub, List.sum_cons, List.length_cons]
    have e : ((a.length + 1 : Nat) : Int) = (a.length : Int) + 1 := by omega
    rw [e]
    have h1 : ((a.length : Int) + 1) * (2 * j + ((a.length : Int) + 1) + 1) = (a.length : Int) * (2 * (j + 1) + (a.length : Int) + 1) + (2 * j + 2) := by
      have := Int.add_mul (a.length : Int) 1 (2 * j + ((a.length : Int) + 1) + 1)
      rw [this, show 2 * j + ((a.length : Int) + 1) + 1 = 2 * (j + 1) + (a.length : Int) by omega, Int.mul_add (a.length : Int) _ 1]
      omega
    rw [h1, ← ih]
    omega
theorem cn_ones : ∀ (n : Nat) (h : Int), cn h (List.replicate n 49) = (List.range n).map fun (k : Nat) => h + 1 + (k : Int)
  | 0, _ => rfl
  | n + 1, h => by
    rw [List.replicate_succ, List.range_succ_eq_map, List.map_cons, List.map_map]
    unfold cn
    rw [show h + one01 49 = h + 1 from rfl, cn_ones n (h + 1)]
    refine List.cons_eq_cons.mpr ⟨by omega, List.map_congr_left fun k _ => ?_⟩
    show h + 1 + 1 + (k : Int) = h + 1 + ((k + 1 : Nat) : Int)
    omega
theorem sum_ones : ∀ (n : Nat) (h : Int), 2 * (cn h (List.replicate n 49)).sum = n * (2 * h + n + 1)
  | 0, _ => by simp [cn]
  | n + 1, h => by
    have ih := sum_ones n (h + 1)
    rw [List.replicate_succ]
    unfold cn
    rw [show h + one01 49 = h + 1 from rfl, List.sum_cons]
    have e : ((n + 1 : Nat) : Int) = (n : Int) + 1 := by omega
    rw [e]
    have h1 : ((n : Int) + 1) * (2 * h + ((n : Int) + 1) + 1) = (n : Int) * (2 * (h + 1) + (n : Int) + 1) + (2 * h + 2) := by
      have := Int.add_mul (n : Int) 1 (2 * h + ((n : Int) + 1) + 1)
      rw [this, show 2 * h + ((n : Int) + 1) + 1 = 2 * (h + 1) + (n : Int) by omega, Int.mul_add (n : Int) _ 1]
      omega
    rw [h1, ← ih]
    omega
theorem mems_mem : ∀ {n : Nat} {m : List Nat}, m ∈ memsN n → Mem m ∧ m.length = n
  | 0, m, h => by
    cases List.mem_singleton.mp h
    exact ⟨fun c hc => (by cases hc), rfl⟩
  | n + 1, m, h => by
    obtain ⟨s, h1, h2⟩ := List.mem_flatMap.mp h
    obtain ⟨k1, k2⟩ := mems_mem h1
    rcases List.mem_cons.mp h2 with rfl | h2
    · refine ⟨fun c hc => ?_, by rw [List.length_cons, k2]⟩
      rcases List.mem_cons.mp hc with rfl | hc
      · exact .inl rfl
      · exact k1 c hc
    · cases List.mem_singleton.mp h2
      refine ⟨fun c hc => ?_, by rw [List.length_cons, k2]⟩
      rcases List.mem_cons.mp hc with rfl | hc
      · exact .inr rfl
      · exact k1 c hc
theorem cut_to' {α : Type} (l : List α) (n : Nat) : cutL l none (some (n : Int)) = l.take n := by
  by_cases h : n ≤ l.length
  · exact cut_to l n h
  · unfold cutL
    have e1 : HT.sIx l.length 0 none = 0 := rfl
    have e2 : HT.sIx l.length l.length (some (n : Int)) = min n l.length := HT.sIx_nat _ _ _
    rw [e1, e2, List.drop_zero, Nat.sub_zero, Nat.min_eq_right (by omega), List.take_of_length_le (Nat.le_refl _), List.take_of_length_le (by omega)]
theorem scut_to (s : List Nat) (n : Nat) (h : s.length ≤ 1000000) : scut s none (some (n : Int)) = some (s.take n) := by
  unfold scut
  rw [if_pos (by omega), cut_to']
theorem scut_from (s : List Nat) (n : Nat) (h : s.length ≤ 1000000) : scut s (some (n : Int)) none = some (s.drop n) := by
  unfold scut
  rw [if_pos (by omega), cut_from]
theorem need_pair_spec {n : Nat} {a b : List Nat} (ha : Mm n a) (hb : Mm n b) (h1 : 1 ≤ n) (h2 : n ≤ 9) : t_need_pair a b = some () := by
  unfold t_need_pair
  rw [need_memory_spec ha.1 (by rw [ha.2]; exact h1) (by rw [ha.2]; exact h2), Option.bind_some, need_memory_spec hb.1 (by rw [hb.2]; exact h1) (by rw [hb.2]; exact h2), Option.bind_some, len_nil (by rw [hb.2]; omega), Option.bind_some, len_nil (by rw [ha.2]; omega), Option.bind_some, ha.2, hb.2]
  simp
theorem cn_take : ∀ (m : List Nat) (h : Int), cn h m = (List.range m.length).map fun (k : Nat) => h + (((m.take (k + 1)).count 49 : Nat) : Int)
  | [], _ => rfl
  | a :: m, h => by
    rw [List.length_cons, List.range_succ_eq_map, List.map_cons, List.map_map]
    unfold cn
    rw [cn_take m (h + one01 a)]
    refine List.cons_eq_cons.mpr ⟨?_, List.map_congr_left fun k _ => ?_⟩
    · unfold one01
      by_cases z : a = 49
      · simp [z]
      · rw [if_neg z]
        simp [z]
    · show h + one01 a + _ = h + ((((a :: m).take (k + 1 + 1)).count 49 : Nat) : Int)
      rw [List.take_succ_cons, List.count_cons]
      unfold one01
      by_cases z : a = 49
      · simp [z]; omega
      · simp [z]
theorem counts_spec {m : List Nat} (h : m.length ≤ 1000) : t_counts m = some (cn 0 m) := by
  unfold t_counts
  rw [len_nil (by omega), Option.bind_some, range1_of (by omega) (by omega), Option.bind_some]
  have e : ∀ b ∈ irange 0 (m.length : Int).toNat, ((scut m none (some (b + 1))).bind fun s4 => some [((s4.count 49 : Nat) : Int)]) = some ((fun b : Int => [(((m.take (b.toNat + 1)).count 49 : Nat) : Int)]) b) := fun b hb => by
    unfold irange at hb
    obtain ⟨k, hk, rfl⟩ := List.mem_map.mp hb
    show _ = some [(((m.take (((0 : Int) + (k : Int)).toNat + 1)).count 49 : Nat) : Int)]
    rw [show ((0 : Int) + (k : Int)).toNat = k by omega, show (0 : Int) + (k : Int) + 1 = ((k + 1 : Nat) : Int) by omega, scut_to m _ (by omega), Option.bind_some]
  have e2 : (irange 0 (m.length : Int).toNat).flatMap (fun b : Int => [(((m.take (b.toNat + 1)).count 49 : Nat) : Int)]) = cn 0 m := by
    rw [cn_take m 0]
    unfold irange
    rw [List.flatMap_map, Int.toNat_natCast, ← List.map_eq_flatMap]
    refine List.map_congr_left fun k _ => ?_
    rw [show ((0 : Int) + (k : Int)).toNat = k by omega]
    omega
  rw [tcmp_of e (by rw [e2, cn_len]; omega), e2, Option.bind_some]
theorem from_fold : ∀ (l : List Int) (m : List Nat) (b : Int), (l.foldl (fun (s : List Nat × Int) x => (s.1 ++ [if s.2 < x then 49 else 48], x)) (m, b)).1 = m ++ fc b l
  | [], m, b => by simp [fc]
  | x :: l, m, b => by
    rw [List.foldl_cons, from_fold l]
    simp [fc]
theorem from_counts_spec {l : List Int} (h : l.length ≤ 1000) : t_from_counts l = some (fc 0 l) := by
  unfold t_from_counts
  rw [Option.bind_some]
  dsimp only
  generalize hF : fld _ _ _ = F
  rw [fld_fold' hF (fun (s : List Nat × Int) x => (s.1 ++ [if s.2 < x then 49 else 48], x)) (fun l s => s.1.length + l.length ≤ 1000) (by show 0 + l.length ≤ _; omega) fun b l s h => by
    rw [List.length_cons] at h
    refine ⟨?_, by show (s.1 ++ [_]).length + _ ≤ _; rw [List.length_append]; show s.1.length + 1 + _ ≤ _; omega⟩
    by_cases z : s.2 < b
    · rw [if_pos (by simpa using z), scat_of (by show s.1.length + 1 ≤ _; omega), Option.bind_some, if_pos z]
    · rw [if_neg (by simpa using z), scat_of (by show s.1.length + 1 ≤ _; omega), Option.bind_some, if_neg z], Option.bind_some, from_fold]
  rfl
theorem meet_spec {n : Nat} {a b : List Nat} (ha : Mm n a) (hb : Mm n b) (h1 : 1 ≤ n) (h2 : n ≤ 9) : t_meet a b = some (meetL a b) := by
  have hl : (mn (cn 0 a) (cn 0 b)).length = n := by rw [mn_len (by rw [cn_len, cn_len, ha.2, hb.2]), cn_len, ha.2]
  unfold t_meet
  rw [need_pair_spec ha hb h1 h2, Option.bind_some, counts_spec (by rw [ha.2]; omega), Option.bind_some, counts_spec (by rw [hb.2]; omega), Option.bind_some, tmap_of (by rw [List.length_zip, cn_len, cn_len, ha.2, hb.2]; omega), mn_map, Option.bind_some, from_counts_spec (by omega), Option.bind_some]
  rfl
theorem join_spec {n : Nat} {a b : List Nat} (ha : Mm n a) (hb : Mm n b) (h1 : 1 ≤ n) (h2 : n ≤ 9) : t_join a b = some (joinM a b) := by
  have hl : (mx (cn 0 a) (cn 0 b)).length = n := by rw [mx_len (by rw [cn_len, cn_len, ha.2, hb.2]), cn_len, ha.2]
  unfold t_join
  rw [need_pair_spec ha hb h1 h2, Option.bind_some, counts_spec (by rw [ha.2]; omega), Option.bind_some, counts_spec (by rw [hb.2]; omega), Option.bind_some, tmap_of (by rw [List.length_zip, cn_len, cn_len, ha.2, hb.2]; omega), mx_map, Option.bind_some, from_counts_spec (by omega), Option.bind_some]
  rfl
theorem is_below_spec {n : Nat} {a b : List Nat} (ha : Mm n a) (hb : Mm n b) (h1 : 1 ≤ n) (h2 : n ≤ 9) : t_is_below a b = some (leB (cn 0 a) (cn 0 b)) := by
  unfold t_is_below t_below
  rw [need_pair_spec ha hb h1 h2, Option.bind_some, counts_spec (by rw [ha.2]; omega), Option.bind_some, counts_spec (by rw [hb.2]; omega), Option.bind_some, Option.bind_some]
  rfl
theorem rank_spec {n : Nat} {a : List Nat} (ha : Mm n a) (h1 : 1 ≤ n) (h2 : n ≤ 9) : t_rank a = some (cn 0 a).sum := by
  unfold t_rank t_rank_of
  rw [need_memory_spec ha.1 (by rw [ha.2]; exact h1) (by rw [ha.2]; exact h2), Option.bind_some, counts_spec (by rw [ha.2]; omega), Option.bind_some, Option.bind_some]
theorem words_spec {r : Row} (h : ROk r) {n : Nat} (hn : n ≤ 1000000) {β γ : Type} (l : List β) (hl : l.length ≤ 1000) (r16 : List γ) (h16 : r16.length = n) : ∃ (ys : List (List Nat)) (r' : Row), tcmpS (fun (_ : β) (s : Row) => (tcmpS (fun (_ : γ) (s20 : Row) => (t__law_pick_s s20 [48, 49]).bind fun w21 => some ([w21.1], w21.2)) r16 s).bind fun l22 => (sjoin [] l22.1).bind fun s23 => some ([s23], l22.2)) l r = some (ys, r') ∧ ROk r' ∧ ys.length = l.length ∧ ∀ y ∈ ys, Mm n y :=
  tcmpS_inv ROk (Mm n) (fun b s hs => by
    obtain ⟨ys, r', h1, h2, m, rfl, h3, h4⟩ := word_spec hs hn r16 h16
    exact ⟨m, r', by rw [h1, Option.bind_some, sjoin_chars (by omega), Option.bind_some], h2, h4, h3⟩) l r h (by omega)
theorem list3 {α : Type} : ∀ {l : List α}, l.length = 3 → ∃ a b c, l = [a, b, c]
  | [a, b, c], _ => ⟨a, b, c, rfl⟩
  | [], h => by cases h
  | [_], h => by cases h
  | [_, _], h => by cases h
  | _ :: _ :: _ :: _ :: _, h => by cases h
theorem list2 {α : Type} : ∀ {l : List α}, l.length = 2 → ∃ a b, l = [a, b]
  | [a, b], _ => ⟨a, b, rfl⟩
  | [], h => by cases h
  | [_], h => by cases h
  | _ :: _ :: _ :: _, h => by cases h
theorem teq_same {α : Type} [BEq α] [LawfulBEq α] {e : α → D} {x : α} (h : (e x).shp 16 = true) : teq e x x = some true := by
  unfold teq
  rw [h]
  simp
theorem shp_ints : ∀ {n : Nat} (l : List Int), D.shpL n (l.map eInt) = true
  | _, [] => by simp [D.shpL]
  | n, x :: l => by
    show (D.shp n (.int x) && D.shpL n (l.map eInt)) = true
    rw [shp_ints l]
    simp [D.shp]
theorem shp_pairs : ∀ {n : Nat} (l : List (Int × Int)), D.shpL (n + 1) (l.map (e2 eInt eInt)) = true
  | _, [] => by simp [D.shpL]
  | n, x :: l => by
    show (D.shp (n + 1) (.tup [.int x.1, .int x.2]) && D.shpL (n + 1) (l.map (e2 eInt eInt))) = true
    rw [shp_pairs l]
    simp [D.shp, D.shpL]
theorem teq_ints (l : List Int) : teq (eTup eInt) l l = some true := teq_same (by show D.shp 16 (.tup _) = true; simp only [D.shp]; exact shp_ints l)
theorem teq_pairsT (l : List (Int × Int)) : teq (eTup (e2 eInt eInt)) l l = some true := teq_same (by show D.shp 16 (.tup _) = true; simp only [D.shp]; exact shp_pairs l)
theorem teq_pairsL (l : List (Int × Int)) : teq (eLst (e2 eInt eInt)) l l = some true := teq_same (by show D.shp 16 (.lst _) = true; simp only [D.shp]; exact shp_pairs l)
def lawA (n : Int) (a b : List Nat) : Option Bool :=
  (t__law_all n).bind fun c26 =>
  (tcmp (fun (b27 : List Nat) => (t__law_on b27).bind fun c28 => some [(b27, c28)]) c26).bind fun l29 =>
  (some (mkd l29)).bind fun table30 =>
  (t_is_below a b).bind fun c31 =>
  (dlk table30 a).bind fun y32 =>
  (tcmp (fun (b33 : Int × Int) => (dlk table30 b).bind fun y34 => (tmem (e2 eInt eInt) b33 y34).bind fun b35 => if (true != b35) = true then (some [b33]) else some []) y32).bind fun l36 =>
  (teq (eLst (e2 eInt eInt)) l36 ([] : List (Int × Int))).bind fun b37 =>
  (talike eBl c31 b37).bind fun k38 =>
  if (!k38) = true then (
    some false)
  else (
    (t_rank a).bind fun c39 =>
    (dlk table30 a).bind fun y40 =>
    (talike eInt c39 (y40.length : Int)).bind fun k41 =>
    if (!k41) = true then (
      some false)
    else (
      (tcmp (fun (b42 : List Nat) => (dlk table30 b42).bind fun y43 => (tcmp (fun (b44 : Int × Int) => (dlk table30 a).bind fun y45 => (tmem (e2 eInt eInt) b44 y45).bind fun b46 => (if (true != b46) = true then some true else ((dlk table30 b).bind fun y47 => (tmem (e2 eInt eInt) b44 y47).bind fun b48 => some (true != b48))).bind fun b49 => if b49 = true then (some [b44]) else some []) y43).bind fun l50 => (teq (eLst (e2 eInt eInt)) l50 ([] : List (Int × Int))).bind fun b51 => if b51 = true then (some [b42]) else some []) (dks table30)).bind fun l52 =>
      (tcmp (fun (b53 : List Nat) => (dlk table30 a).bind fun y54 => (dlk table30 b).bind fun y55 => (lcat y54 y55).bind fun l56 => (tcmp (fun (b57 : Int × Int) => (dlk table30 b53).bind fun y58 => (tmem (e2 eInt eInt) b57 y58).bind fun b59 => if (true != b59) = true then (some [b57]) else some []) l56).bind fun l60 => (teq (eLst (e2 eInt eInt)) l60 ([] : List (Int × Int))).bind fun b61 => if b61 = true then (some [b53]) else some []) (dks table30)).bind fun l62 =>
      (t_meet a b).bind fun c63 =>
      (t_join a b).bind fun c64 =>
      (some (c63, c64)).bind fun v65 =>
      (tmem eStr v65.1 l52).bind fun b66 =>
      (if (true != b66) = true then some true else ((tmem eStr v65.2 l62).bind fun b67 => some (true != b67))).bind fun b68 =>
      if b68 = true then (
        some false)
      else (
        (tcmp (fun (b69 : List Nat) => (dlk table30 b69).bind fun y70 => (tcmp (fun (b71 : Int × Int) => (dlk table30 v65.1).bind fun y72 => (tmem (e2 eInt eInt) b71 y72).bind fun b73 => if (true != b73) = true then (some [b71]) else some []) y70).bind fun l74 => (teq (eLst (e2 eInt eInt)) l74 ([] : List (Int × Int))).bind fun b75 => if (!b75) = true then (some [b69]) else some []) l52).bind fun l76 =>
        (teq (eLst eStr) l76 ([] : List (List Nat))).bind fun b77 =>
        if (!b77) = true then (
          some false)
        else (
          (tcmp (fun (b78 : List Nat) => (dlk table30 v65.2).bind fun y79 => (tcmp (fun (b80 : Int × Int) => (dlk table30 b78).bind fun y81 => (tmem (e2 eInt eInt) b80 y81).bind fun b82 => if (true != b82) = true then (some [b80]) else some []) y79).bind fun l83 => (teq (eLst (e2 eInt eInt)) l83 ([] : List (Int × Int))).bind fun b84 => if (!b84) = true then (some [b78]) else some []) l62).bind fun l85 =>
          (teq (eLst eStr) l85 ([] : List (List Nat))).bind fun b86 =>
          if (!b86) = true then (
            some false)
          else (
            (dlk table30 a).bind fun y87 =>
            (tcmp (fun (b88 : Int × Int) => (dlk table30 b).bind fun y89 => (tmem (e2 eInt eInt) b88 y89).bind fun b90 => if (false != b90) = true then (some [b88]) else some []) y87).bind fun l91 =>
            (dlk table30 a).bind fun y92 =>
            (dlk table30 b).bind fun y93 =>
            (lcat y92 y93).bind fun l94 =>
            (tss l94).bind fun l95 =>
            (dlk table30 v65.2).bind fun y96 =>
            (teq (eLst (e2 eInt eInt)) l95 y96).bind fun b97 =>
            (if b97 = true then ((dlk table30 v65.1).bind fun y98 => (teq (eLst (e2 eInt eInt)) l91 y98).bind fun b99 => some b99) else some false).bind fun b100 =>
            some b100)))))
theorem t_law_M (script_ : List Int) : t_law script_ = (
  (some (script_, 0, 5510, 0)).bind fun row1 =>
  (t__law_taken row1 6).bind fun w2 =>
  (some (1 + w2.1)).bind fun span3 =>
  (trange1 2).bind fun r4 =>
  (tcmpS (fun (b14 : Int) (s15 : (List Int) × Int × Int × Int) => (trange1 span3).bind fun r16 => (tcmpS (fun (b19 : Int) (s20 : (List Int) × Int × Int × Int) => (t__law_pick_s s20 [48, 49]).bind fun w21 => some ([w21.1], w21.2)) r16 s15).bind fun l22 => (sjoin [] l22.1).bind fun s23 => some ([s23], l22.2)) r4 w2.2).bind fun l24 =>
  (un2 l24.1).bind fun w25 =>
  lawA span3 w25.1 w25.2) := rfl
abbrev Rel := Int × Int
def idx (n : Nat) (r : Rel) : Nat := ((n : Int) - r.1 + r.2).toNat
def hb (n : Nat) (m : List Nat) (r : Rel) : Bool := decide (r.2 + 1 ≤ (cn 0 m).getD (idx n r) 0)
def pwB : List Rel → Bool
  | [] => true
  | x :: l => (l.all fun y => decide (kp x < kp y)) && pwB l
def nodB : List (List Nat) → Bool
  | [] => true
  | x :: l => !l.contains x && nodB l
def onA (n : Nat) (R : List Rel) (o : Option (List (List Nat))) : Bool := match o with
  | some L => nodB L && (L.all fun m => (memsN n).contains m) && ((memsN n).all fun m => L.contains m) && decide (L.length ≤ 64) && decide (R.length ≤ 21) && pwB R && R.all okP && (R.all fun r => decide (idx n r < n)) && ((List.range n).all fun i => (List.range (i + 1)).all fun j => R.any fun r => decide (idx n r = i) && decide (r.2 = (j : Int))) &&
      (memsN n).all fun m => (t__law_on m == some (R.filter (hb n m))) && decide ((cn 0 m).sum = ((R.filter (hb n m)).length : Int))
  | none => false
def relL (n : Nat) : List Rel := (List.range n).flatMap fun h => (List.range (h + 1)).map fun (l : Nat) => (((h + 1 : Nat) : Int), ((l : Nat) : Int))
structure OA (n : Nat) (R : List Rel) (L : List (List Nat)) : Prop where
  nd : L.Nodup
  sub : ∀ m ∈ L, Mm n m
  all : ∀ m, Mm n m → m ∈ L
  len : L.length ≤ 64
  rl : R.length ≤ 21
  pw : R.Pairwise fun a b => kp a < kp b
  rp : ∀ r ∈ R, okP r = true
  ix : ∀ r ∈ R, idx n r < n
  onto : ∀ i j : Nat, i < n → j ≤ i → ∃ r ∈ R, idx n r = i ∧ r.2 = (j : Int)
  on : ∀ m, Mm n m → t__law_on m = some (R.filter (hb n m))
  rk : ∀ m, Mm n m → (cn 0 m).sum = ((R.filter (hb n m)).length : Int)
theorem nodB_ok : ∀ {l : List (List Nat)}, nodB l = true → l.Nodup
  | [], _ => List.nodup_nil
  | x :: l, h => by
    unfold nodB at h
    rw [Bool.and_eq_true] at h
    refine List.nodup_cons.mpr ⟨fun z => ?_, nodB_ok h.2⟩
    rw [List.contains_iff_mem.mpr z] at h
    exact absurd h.1 (by decide)
theorem pwB_ok : ∀ {l : List Rel}, pwB l = true → l.Pairwise fun a b => kp a < kp b
  | [], _ => .nil
  | x :: l, h => by
    unfold pwB at h
    rw [Bool.and_eq_true] at h
    exact List.Pairwise.cons (fun y hy => of_decide_eq_true (List.all_eq_true.mp h.1 y hy)) (pwB_ok h.2)
theorem oa_of {n : Nat} {R : List Rel} : ∀ {o : Option (List (List Nat))}, onA n R o = true → ∃ L, o = some L ∧ OA n R L
  | some L, h => by
    unfold onA at h
    simp only [Bool.and_eq_true] at h
    obtain ⟨⟨⟨⟨⟨⟨⟨⟨⟨h1, h2⟩, h3⟩, h4⟩, h5⟩, h6⟩, h7⟩, h8⟩, h9⟩, h10⟩ := h
    refine ⟨L, rfl, nodB_ok h1, fun m hm => ?_, fun m hm => ?_, of_decide_eq_true h4, of_decide_eq_true h5, pwB_ok h6, fun r hr => List.all_eq_true.mp h7 r hr, fun r hr => of_decide_eq_true (List.all_eq_true.mp h8 r hr), fun i j hi hj => ?_, fun m hm => ?_, fun m hm => ?_⟩
    · exact mems_mem (List.contains_iff_mem.mp (List.all_eq_true.mp h2 m hm))
    · exact List.contains_iff_mem.mp (List.all_eq_true.mp h3 m (mems_all hm.1 hm.2))
    · have k := List.all_eq_true.mp (List.all_eq_true.mp h9 i (List.mem_range.mpr hi)) j (List.mem_range.mpr (by omega))
      obtain ⟨r, hr, k2⟩ := List.any_eq_true.mp k
      rw [Bool.and_eq_true, decide_eq_true_eq, decide_eq_true_eq] at k2
      exact ⟨r, hr, k2⟩
    · have k := List.all_eq_true.mp h10 m (mems_all hm.1 hm.2)
      rw [Bool.and_eq_true] at k
      exact eq_of_beq k.1
    · have k := List.all_eq_true.mp h10 m (mems_all hm.1 hm.2)
      rw [Bool.and_eq_true] at k
      exact of_decide_eq_true k.2
theorem mn_getD : ∀ (l m : List Int) (i : Nat), i < l.length → i < m.length → (mn l m).getD i 0 = imin (l.getD i 0) (m.getD i 0)
  | [], _, i, h, _ => absurd h (by simp)
  | _ :: _, [], i, _, h => absurd h (by simp)
  | x :: l, y :: m, 0, _, _ => rfl
  | x :: l, y :: m, i + 1, h1, h2 => mn_getD l m i (by simpa using h1) (by simpa using h2)
theorem mx_getD : ∀ (l m : List Int) (i : Nat), i < l.length → i < m.length → (mx l m).getD i 0 = imax (l.getD i 0) (m.getD i 0)
  | [], _, i, h, _ => absurd h (by simp)
  | _ :: _, [], i, _, h => absurd h (by simp)
  | x :: l, y :: m, 0, _, _ => rfl
  | x :: l, y :: m, i + 1, h1, h2 => mx_getD l m i (by simpa using h1) (by simpa using h2)
theorem hb_meet {n : Nat} {R : List Rel} {L : List (List Nat)} (O : OA n R L) {a b : List Nat} (ha : Mm n a) (hb2 : Mm n b) {r : Rel} (hr : r ∈ R) : hb n (meetL a b) r = (hb n a r && hb n b r) := by
  have hi := O.ix r hr
  unfold hb
  rw [cn_meet ha.1 hb2.1, mn_getD _ _ _ (by rw [cn_len, ha.2]; exact hi) (by rw [cn_len, hb2.2]; exact hi)]
  unfold imin
  rw [Bool.eq_iff_iff]
  simp only [Bool.and_eq_true, decide_eq_true_eq]
  split <;> omega
theorem hb_join {n : Nat} {R : List Rel} {L : List (List Nat)} (O : OA n R L) {a b : List Nat} (ha : Mm n a) (hb2 : Mm n b) {r : Rel} (hr : r ∈ R) : hb n (joinM a b) r = (hb n a r || hb n b r) := by
  have hi := O.ix r hr
  unfold hb
  rw [cn_join ha.1 hb2.1, mx_getD _ _ _ (by rw [cn_len, ha.2]; exact hi) (by rw [cn_len, hb2.2]; exact hi)]
  unfold imax
  rw [Bool.eq_iff_iff]
  simp only [Bool.or_eq_true, decide_eq_true_eq]
  split <;> omega
theorem cn_bd : ∀ (m : List Nat) (h : Int) (i : Nat), i < m.length → h ≤ (cn h m).getD i 0 ∧ (cn h m).getD i 0 ≤ h + i + 1
  | [], _, i, hi => absurd hi (by simp)
  | c :: m, h, 0, _ => by
    show h ≤ h + one01 c ∧ h + one01 c ≤ h + 0 + 1
    unfold one01
    split <;> omega
  | c :: m, h, i + 1, hi => by
    have := cn_bd m (h + one01 c) i (by simpa using hi)
    have o : 0 ≤ one01 c ∧ one01 c ≤ 1 := by unfold one01; split <;> omega
    show h ≤ (cn (h + one01 c) m).getD i 0 ∧ (cn (h + one01 c) m).getD i 0 ≤ h + ((i + 1 : Nat) : Int) + 1
    omega
theorem leB_iff : ∀ (l m : List Int), l.length = m.length → (leB l m = true ↔ ∀ i, i < l.length → l.getD i 0 ≤ m.getD i 0)
  | [], [], _ => ⟨fun _ i hi => absurd hi (by simp), fun _ => rfl⟩
  | [], _ :: _, h => by cases h
  | _ :: _, [], h => by cases h
  | x :: l, y :: m, h => by
    have ih := leB_iff l m (by simpa using h)
    have e : leB (x :: l) (y :: m) = (decide (x ≤ y) && leB l m) := rfl
    rw [e, Bool.and_eq_true, decide_eq_true_eq, ih]
    constructor
    · rintro ⟨h1, h2⟩ i hi
      cases i with
      | zero => exact h1
      | succ i => exact h2 i (by simpa using hi)
    · exact fun h1 => ⟨h1 0 (by simp), fun i hi => h1 (i + 1) (by simpa using hi)⟩
theorem below_iff {n : Nat} {R : List Rel} {L : List (List Nat)} (O : OA n R L) {a b : List Nat} (ha : Mm n a) (hb2 : Mm n b) : leB (cn 0 a) (cn 0 b) = ((R.filter (hb n a)).filter (fun r => !hb n b r) == []) := by
  rw [Bool.eq_iff_iff, beq_iff_eq, List.filter_eq_nil_iff, leB_iff _ _ (by rw [cn_len, cn_len, ha.2, hb2.2])]
  constructor
  · intro h r hr
    obtain ⟨r1, r2⟩ := List.mem_filter.mp hr
    have := h (idx n r) (by rw [cn_len, ha.2]; exact O.ix r r1)
    unfold hb at r2 ⊢
    rw [decide_eq_true_eq] at r2
    rw [decide_eq_true (by omega)]
    decide
  · intro h i hi
    rw [cn_len, ha.2] at hi
    have b1 := cn_bd a 0 i (by rw [ha.2]; exact hi)
    have b2 := cn_bd b 0 i (by rw [hb2.2]; exact hi)
    by_cases z : (cn 0 a).getD i 0 ≤ (cn 0 b).getD i 0
    · exact z
    · exfalso
      obtain ⟨r, hr, e1, e2⟩ := O.onto i ((cn 0 a).getD i 0 - 1).toNat hi (by omega)
      have k : r ∈ R.filter (hb n a) := List.mem_filter.mpr ⟨hr, by unfold hb; rw [e1, decide_eq_true_eq]; omega⟩
      have := h r k
      unfold hb at this
      rw [e1, decide_eq_false (by omega)] at this
      exact this rfl
/-! ### the table -/
section
variable {α β : Type} [BEq α] [LawfulBEq α]
theorem mkd_go : ∀ (l acc : List (α × β)), ((acc ++ l).map (·.1)).Nodup → l.foldl (fun a p => dput0 a p.1 p.2) acc = acc ++ l
  | [], acc, _ => (List.append_nil _).symm
  | p :: l, acc, h => by
    have e : dput0 acc p.1 p.2 = acc ++ [p] := by
      unfold dput0
      rw [if_neg]
      intro z
      obtain ⟨q, hq, e⟩ := List.any_eq_true.mp z
      rw [List.map_append, List.nodup_append] at h
      exact h.2.2 q.1 (List.mem_map.mpr ⟨q, hq, rfl⟩) p.1 (by simp) (eq_of_beq e)
    rw [List.foldl_cons, e, mkd_go l (acc ++ [p]) (by rw [List.append_assoc]; exact h), List.append_assoc]
    rfl
theorem mkd_nd {l : List (α × β)} (h : (l.map (·.1)).Nodup) : mkd l = l := mkd_go l [] h
theorem dlk_tab (f : α → β) {m : α} : ∀ {L : List α}, m ∈ L → dlk (L.map fun m => (m, f m)) m = some (f m)
  | x :: L, h => by
    unfold dlk
    rw [List.map_cons]
    by_cases e : x = m
    · rw [List.find?_cons_of_pos (by simpa using e), ← e]
      rfl
    · rw [List.find?_cons_of_neg (by simpa using e)]
      rcases List.mem_cons.mp h with h | h
      · exact absurd h.symm e
      · exact dlk_tab f h
end
theorem fil_one {α : Type} (c : α → Bool) : ∀ l : List α, l.flatMap (fun b => if c b = true then [b] else []) = l.filter c
  | [] => rfl
  | x :: l => by
    rw [List.flatMap_cons, fil_one c l, List.filter_cons]
    split <;> rfl
theorem tcmp_fil {α : Type} {t : α → Option (List α)} (p : α → Bool) {l : List α} (h : ∀ x ∈ l, t x = some (if p x = true then [x] else [])) (hl : l.length ≤ 1000) : tcmp t l = some (l.filter p) := by
  rw [tcmp_of h (by rw [fil_one]; exact Nat.le_trans (List.length_filter_le ..) (by omega)), fil_one]
theorem flat1 {α β : Type} (g : α → β) : ∀ l : List α, l.flatMap (fun b => [g b]) = l.map g
  | [] => rfl
  | x :: l => by rw [List.flatMap_cons, flat1 g l]; rfl
theorem some_if (b : Bool) {α : Type} (x : α) : (if b = true then some [x] else some []) = some (if b = true then [x] else []) := by cases b <;> rfl
theorem teq_pl (x y : List Rel) : teq (eLst (e2 eInt eInt)) x y = some (x == y) := by
  unfold teq
  rw [show (eLst (e2 eInt eInt) x).shp 16 = true from by show D.shp 16 (.lst _) = true; simp only [D.shp]; exact shp_pairs x, show (eLst (e2 eInt eInt) y).shp 16 = true from by show D.shp 16 (.lst _) = true; simp only [D.shp]; exact shp_pairs y]
  rfl
theorem mem_pairs (x : Rel) (l : List Rel) : tmem (e2 eInt eInt) x l = some (l.any fun y => y == x) := by
  unfold tmem
  rw [show D.shpL 15 (l.map (e2 eInt eInt)) = true from shp_pairs (n := 14) l]
  rfl
theorem any_hb {n : Nat} {R : List Rel} {m : List Nat} {r : Rel} (hr : r ∈ R) : ((R.filter (hb n m)).any fun y => y == r) = hb n m r := by
  rw [Bool.eq_iff_iff, List.any_eq_true]
  constructor
  · rintro ⟨y, hy, h2⟩
    rw [eq_of_beq h2] at hy
    exact (List.mem_filter.mp hy).2
  · exact fun h => ⟨r, List.mem_filter.mpr ⟨hr, h⟩, by simp⟩
theorem shp_strs : ∀ {n : Nat} (l : List (List Nat)), (∀ x ∈ l, Mem x) → D.shpL n (l.map eStr) = true
  | _, [], _ => by simp [D.shpL]
  | n, x :: l, h => by
    show (D.shp n (.str x) && D.shpL n (l.map eStr)) = true
    rw [shp_strs l fun y hy => h y (List.mem_cons_of_mem _ hy)]
    simp only [D.shp, Bool.and_true, List.all_eq_true, decide_eq_true_eq]
    intro c hc
    have := h x List.mem_cons_self c hc
    omega
theorem mem_strs {x : List Nat} {l : List (List Nat)} (hx : Mem x) (hl : ∀ y ∈ l, Mem y) (h : x ∈ l) : tmem eStr x l = some true := by
  unfold tmem
  rw [shp_strs l hl, show (eStr x).shp 16 = true from by
    have := shp_strs (n := 16) [x] (fun y hy => by rw [List.mem_singleton.mp hy]; exact hx)
    simpa [D.shpL] using this]
  rw [if_pos (show (true && true) = true from rfl)]
  congr 1
  exact List.any_eq_true.mpr ⟨x, h, by simp⟩
theorem talike_bl (k : Bool) : talike eBl k k = some true := by
  unfold talike
  rw [if_pos ⟨by show alk 5 (.bl k) = true; unfold alk; rfl, rfl⟩]
theorem talike_int (k : Int) : talike eInt k k = some true := by
  unfold talike
  rw [if_pos ⟨by show alk 5 (.int k) = true; unfold alk; rfl, rfl⟩]
theorem oa_1 : onA 1 (relL 1) (t__law_all (1 : Nat)) = true := by decide +kernel
theorem oa_2 : onA 2 (relL 2) (t__law_all (2 : Nat)) = true := by decide +kernel
theorem oa_3 : onA 3 (relL 3) (t__law_all (3 : Nat)) = true := by decide +kernel
theorem oa_4 : onA 4 (relL 4) (t__law_all (4 : Nat)) = true := by decide +kernel
theorem oa_5 : onA 5 (relL 5) (t__law_all (5 : Nat)) = true := by decide +kernel
theorem oa_6 : onA 6 (relL 6) (t__law_all (6 : Nat)) = true := by decide +kernel
end Mi.T

namespace Mi.T
open PySem PySem.Spec PyProof.Rows L2 GxR
theorem lawA_true {n : Nat} {R : List Rel} {L : List (List Nat)} (e0 : t__law_all (n : Int) = some L) (O : OA n R L) (n1 : 1 ≤ n) (hn : n ≤ 9) {a b : List Nat} (ha : Mm n a) (hb2 : Mm n b) : lawA (n : Int) a b = some true := by
  unfold lawA
  obtain ⟨o, ho⟩ : ∃ o : List Nat → List Rel, o = fun m => R.filter (hb n m) := ⟨_, rfl⟩
  have oe : ∀ m, o m = R.filter (hb n m) := fun m => by rw [ho]
  have om : ∀ {m r}, r ∈ o m ↔ r ∈ R ∧ hb n m r = true := fun {m r} => by rw [oe]; exact List.mem_filter
  have ol : ∀ m, (o m).length ≤ 21 := fun m => by rw [oe]; exact Nat.le_trans (List.length_filter_le ..) O.rl
  have oa : ∀ {m r}, r ∈ R → ((o m).any fun y => y == r) = hb n m r := fun {m r} hr => by rw [oe]; exact any_hb hr
  obtain ⟨T, hT⟩ : ∃ T : List (List Nat × List Rel), T = L.map fun m => (m, o m) := ⟨_, rfl⟩
  have tb : ∀ {m}, Mm n m → dlk T m = some (o m) := fun {m} hm => by rw [hT]; exact dlk_tab o (O.all m hm)
  have tk : dks T = L := by
    rw [hT]
    show (L.map fun m => (m, o m)).map (·.1) = L
    rw [List.map_map]
    exact List.map_id' L
  have tt : (some (mkd (L.map fun m => (m, o m)))) = some T := by
    rw [mkd_nd, hT]
    have : (L.map fun m => (m, o m)).map (·.1) = L := by rw [List.map_map]; exact List.map_id' L
    rw [this]
    exact O.nd
  have hL := O.len
  rw [e0, Option.bind_some, tcmp_of (g := fun m => [(m, o m)]) (fun m hm => by rw [O.on m (O.sub m hm), Option.bind_some, oe]) (by rw [flat1, List.length_map]; omega), Option.bind_some, flat1, tt, Option.bind_some]
  have jm := join_mm ha hb2
  have mm := meet_mm ha hb2
  rw [is_below_spec ha hb2 n1 hn, Option.bind_some, tb ha, Option.bind_some]
  rw [tcmp_fil (p := fun r => !hb n b r) (fun r hr => by
    rw [tb hb2, Option.bind_some, mem_pairs, Option.bind_some, oa (om.mp hr).1]
    cases hb n b r <;> rfl) (by have := ol a; omega), Option.bind_some, teq_pl, Option.bind_some, below_iff O ha hb2, ← oe, talike_bl, Option.bind_some, if_neg (by decide), rank_spec ha n1 hn, Option.bind_some, Option.bind_some, O.rk a ha, ← oe, talike_int, Option.bind_some, if_neg (by decide)]
  rw [tk]
  have f1 : ∀ m ∈ L, (dlk T m).bind (fun y43 => (tcmp (fun (b44 : Int × Int) => (some (o a)).bind fun y45 => (tmem (e2 eInt eInt) b44 y45).bind fun b46 => (if (true != b46) = true then some true else ((dlk T b).bind fun y47 => (tmem (e2 eInt eInt) b44 y47).bind fun b48 => some (true != b48))).bind fun b49 => if b49 = true then (some [b44]) else some []) y43).bind fun l50 => (teq (eLst (e2 eInt eInt)) l50 ([] : List (Int × Int))).bind fun b51 => if b51 = true then (some [m]) else some []) = some (if ((o m).filter (fun r => !hb n a r || !hb n b r) == []) = true then [m] else []) := fun m hm => by
    rw [tb (O.sub m hm), Option.bind_some, tcmp_fil (p := fun r => !hb n a r || !hb n b r) (fun r hr => by
      rw [Option.bind_some, mem_pairs, Option.bind_some, oa (om.mp hr).1, tb hb2, Option.bind_some, mem_pairs, Option.bind_some, oa (om.mp hr).1]
      cases hb n a r <;> cases hb n b r <;> rfl) (by have := ol m; omega), Option.bind_some, teq_pl, Option.bind_some, some_if]
  rw [tcmp_fil (p := fun m => (o m).filter (fun r => !hb n a r || !hb n b r) == []) f1 (by omega), Option.bind_some]
  have la : (o a ++ o b).length ≤ 42 := by rw [List.length_append]; have := ol a; have := ol b; omega
  have inR : ∀ r ∈ o a ++ o b, r ∈ R := fun r hr => (List.mem_append.mp hr).elim (fun h => (om.mp h).1) fun h => (om.mp h).1
  have f2 : ∀ m ∈ L, (some (o a)).bind (fun y54 => (dlk T b).bind fun y55 => (lcat y54 y55).bind fun l56 => (tcmp (fun (b57 : Int × Int) => (dlk T m).bind fun y58 => (tmem (e2 eInt eInt) b57 y58).bind fun b59 => if (true != b59) = true then (some [b57]) else some []) l56).bind fun l60 => (teq (eLst (e2 eInt eInt)) l60 ([] : List (Int × Int))).bind fun b61 => if b61 = true then (some [m]) else some []) = some (if ((o a ++ o b).filter (fun r => !hb n m r) == []) = true then [m] else []) := fun m hm => by
    rw [Option.bind_some, tb hb2, Option.bind_some, lcat_of (by have := ol a; have := ol b; omega), Option.bind_some, tcmp_fil (p := fun r => !hb n m r) (fun r hr => by
      rw [tb (O.sub m hm), Option.bind_some, mem_pairs, Option.bind_some, oa (inR r hr)]
      cases hb n m r <;> rfl) (by omega), Option.bind_some, teq_pl, Option.bind_some, some_if]
  rw [tcmp_fil (p := fun m => (o a ++ o b).filter (fun r => !hb n m r) == []) f2 (by omega), Option.bind_some, meet_spec ha hb2 n1 hn, Option.bind_some, join_spec ha hb2 n1 hn, Option.bind_some, Option.bind_some]
  have hM : ∀ r ∈ R, hb n (meetL a b) r = (hb n a r && hb n b r) := fun r hr => hb_meet O ha hb2 hr
  have hJ : ∀ r ∈ R, hb n (joinM a b) r = (hb n a r || hb n b r) := fun r hr => hb_join O ha hb2 hr
  obtain ⟨lo, hlo⟩ : ∃ lo, lo = L.filter (fun m => (o m).filter (fun r => !hb n a r || !hb n b r) == []) := ⟨_, rfl⟩
  obtain ⟨up, hup⟩ : ∃ up, up = L.filter (fun m => (o a ++ o b).filter (fun r => !hb n m r) == []) := ⟨_, rfl⟩
  have lom : ∀ m ∈ lo, Mm n m ∧ ∀ r ∈ o m, hb n a r = true ∧ hb n b r = true := fun m hm => by
    rw [hlo] at hm
    obtain ⟨h1, h2⟩ := List.mem_filter.mp hm
    rw [beq_iff_eq, List.filter_eq_nil_iff] at h2
    refine ⟨O.sub m h1, fun r hr => ?_⟩
    have := h2 r hr
    revert this
    cases hb n a r <;> cases hb n b r <;> simp
  have upm : ∀ m ∈ up, Mm n m ∧ ∀ r ∈ o a ++ o b, hb n m r = true := fun m hm => by
    rw [hup] at hm
    obtain ⟨h1, h2⟩ := List.mem_filter.mp hm
    rw [beq_iff_eq, List.filter_eq_nil_iff] at h2
    refine ⟨O.sub m h1, fun r hr => ?_⟩
    have := h2 r hr
    revert this
    cases hb n m r <;> simp
  have m1 : meetL a b ∈ lo := by
    rw [hlo]
    refine List.mem_filter.mpr ⟨O.all _ mm, ?_⟩
    rw [beq_iff_eq, List.filter_eq_nil_iff]
    intro r hr
    obtain ⟨r1, r2⟩ := om.mp hr
    rw [hM r r1, Bool.and_eq_true] at r2
    rw [r2.1, r2.2]
    decide
  have j1 : joinM a b ∈ up := by
    rw [hup]
    refine List.mem_filter.mpr ⟨O.all _ jm, ?_⟩
    rw [beq_iff_eq, List.filter_eq_nil_iff]
    intro r hr
    rw [hJ r (inR r hr)]
    rcases List.mem_append.mp hr with h | h
    · rw [(om.mp h).2]
      simp
    · rw [(om.mp h).2, Bool.or_true]
      simp
  rw [← hlo, ← hup]
  have lol : lo.length ≤ 64 := by rw [hlo]; exact Nat.le_trans (List.length_filter_le ..) hL
  have upl : up.length ≤ 64 := by rw [hup]; exact Nat.le_trans (List.length_filter_le ..) hL
  show ((tmem eStr (meetL a b) lo).bind fun b66 => (if (true != b66) = true then some true else ((tmem eStr (joinM a b) up).bind fun b67 => some (true != b67))).bind _) = _
  rw [mem_strs mm.1 (fun m hm => (lom m hm).1.1) m1, Option.bind_some, if_neg (by decide), mem_strs jm.1 (fun m hm => (upm m hm).1.1) j1, Option.bind_some, Option.bind_some, if_neg (by decide)]
  have f3 : ∀ m ∈ lo, (dlk T m).bind (fun y70 => (tcmp (fun (b71 : Int × Int) => (dlk T (meetL a b)).bind fun y72 => (tmem (e2 eInt eInt) b71 y72).bind fun b73 => if (true != b73) = true then (some [b71]) else some []) y70).bind fun l74 => (teq (eLst (e2 eInt eInt)) l74 ([] : List (Int × Int))).bind fun b75 => if (!b75) = true then (some [m]) else some []) = some (if false = true then [m] else []) := fun m hm => by
    obtain ⟨h1, h2⟩ := lom m hm
    rw [tb h1, Option.bind_some, tcmp_fil (p := fun _ => false) (fun r hr => by
      obtain ⟨q1, q2⟩ := h2 r hr
      rw [tb mm, Option.bind_some, mem_pairs, Option.bind_some, oa (om.mp hr).1, hM r (om.mp hr).1, q1, q2]
      rfl) (by have := ol m; omega), Option.bind_some, teq_pl, Option.bind_some, show ((o m).filter fun _ => false) = [] from List.filter_eq_nil_iff.mpr fun _ _ => Bool.false_ne_true]
    rfl
  have f4 : ∀ m ∈ up, (dlk T (joinM a b)).bind (fun y79 => (tcmp (fun (b80 : Int × Int) => (dlk T m).bind fun y81 => (tmem (e2 eInt eInt) b80 y81).bind fun b82 => if (true != b82) = true then (some [b80]) else some []) y79).bind fun l83 => (teq (eLst (e2 eInt eInt)) l83 ([] : List (Int × Int))).bind fun b84 => if (!b84) = true then (some [m]) else some []) = some (if false = true then [m] else []) := fun m hm => by
    obtain ⟨h1, h2⟩ := upm m hm
    rw [tb jm, Option.bind_some, tcmp_fil (p := fun _ => false) (fun r hr => by
      obtain ⟨r1, r2⟩ := om.mp hr
      rw [hJ r r1, Bool.or_eq_true] at r2
      have q : hb n m r = true := h2 r (List.mem_append.mpr (r2.elim (fun h => .inl (om.mpr ⟨r1, h⟩)) fun h => .inr (om.mpr ⟨r1, h⟩)))
      rw [tb h1, Option.bind_some, mem_pairs, Option.bind_some, oa r1, q]
      rfl) (by have := ol (joinM a b); omega), Option.bind_some, teq_pl, Option.bind_some, show ((o (joinM a b)).filter fun _ => false) = [] from List.filter_eq_nil_iff.mpr fun _ _ => Bool.false_ne_true]
    rfl
  have nilS : teq (eLst eStr) ([] : List (List Nat)) [] = some true := rfl
  have ff : ∀ l : List (List Nat), (l.filter fun _ => false) = [] := fun l => List.filter_eq_nil_iff.mpr fun _ _ => Bool.false_ne_true
  show ((tcmp _ lo).bind _) = _
  rw [tcmp_fil (p := fun _ => false) f3 (by omega), Option.bind_some, ff, nilS, Option.bind_some, if_neg (by decide)]
  show ((tcmp _ up).bind _) = _
  rw [tcmp_fil (p := fun _ => false) f4 (by omega), Option.bind_some, ff, nilS, Option.bind_some, if_neg (by decide), Option.bind_some]
  rw [tcmp_fil (p := fun r => hb n b r) (fun r hr => by
    rw [tb hb2, Option.bind_some, mem_pairs, Option.bind_some, oa (om.mp hr).1]
    cases hb n b r <;> rfl) (by have := ol a; omega), Option.bind_some, Option.bind_some, tb hb2, Option.bind_some, lcat_of (by have := ol a; have := ol b; omega), Option.bind_some]
  have okAll : (o a ++ o b).all okP = true := List.all_eq_true.mpr fun r hr => O.rp r (inR r hr)
  have ess : ssL (o a ++ o b) = o (joinM a b) := by
    refine pw_uniq (ss_pw _) (by rw [oe]; exact O.pw.filter _) fun r => ?_
    rw [ss_mem (fun r hr => O.rp r (inR r hr)) r, List.mem_append, om, om, om]
    constructor
    · rintro (h | h)
      · exact ⟨h.1, by rw [hJ r h.1, h.2]; rfl⟩
      · exact ⟨h.1, by rw [hJ r h.1, h.2, Bool.or_true]⟩
    · rintro ⟨h1, h2⟩
      rw [hJ r h1, Bool.or_eq_true] at h2
      exact h2.elim (fun h => .inl ⟨h1, h⟩) fun h => .inr ⟨h1, h⟩
  have emt : (o a).filter (fun r => hb n b r) = o (meetL a b) := by
    rw [oe, oe, List.filter_filter]
    refine List.filter_congr fun r hr => ?_
    rw [hM r hr, Bool.and_comm]
  have ts : tss (o a ++ o b) = some (o (joinM a b)) := by
    unfold tss
    rw [if_pos ⟨okAll, by omega⟩, ess]
  rw [ts, Option.bind_some]
  show ((dlk T (joinM a b)).bind fun y96 => (teq (eLst (e2 eInt eInt)) (o (joinM a b)) y96).bind fun b97 => (if b97 = true then ((dlk T (meetL a b)).bind fun y98 => (teq (eLst (e2 eInt eInt)) ((o a).filter (fun r => hb n b r)) y98).bind fun b99 => some b99) else some false).bind fun b100 => some b100) = _
  rw [tb jm, Option.bind_some, teq_pl, Option.bind_some, if_pos (by simp), tb mm, Option.bind_some, emt, teq_pl]
  simp
theorem law_n {n : Nat} {R : List Rel} (ok : onA n R (t__law_all (n : Int)) = true) (n1 : 1 ≤ n) (hn : n ≤ 9) {a b : List Nat} (ha : Mm n a) (hb2 : Mm n b) : lawA (n : Int) a b = some true := by
  obtain ⟨L, e, O⟩ := oa_of ok
  exact lawA_true e O n1 hn ha hb2
theorem t_law_true (script_ : List Int) : t_law script_ = some true := by
  rw [t_law_M, Option.bind_some]
  obtain ⟨w, e1, p1, q1, r1⟩ := taken_spec (row0 script_ 5510) (m := 6) (by decide) (by decide)
  rw [e1, Option.bind_some, Option.bind_some]
  obtain ⟨k, hk⟩ : ∃ k : Nat, 1 + w.1 = (k : Int) := ⟨(1 + w.1).toNat, by omega⟩
  rw [hk]
  have k1 : 1 ≤ k := by omega
  have k2 : k ≤ 6 := by omega
  rw [range1_of (by decide) (by decide), Option.bind_some]
  have e2 : trange1 (k : Int) = some (irange 0 k) := by rw [range1_of (by omega) (by omega), Int.toNat_natCast]
  rw [e2]
  have key := words_spec (n := k) r1 (by omega) (irange 0 (2 : Int).toNat) (by decide) (irange 0 k) (irange_len _ _)
  obtain ⟨ys, r', h1, h2, h3, h4⟩ := key
  refine Eq.trans (bind_of (a := (ys, r')) h1) ?_
  obtain ⟨a, b, rfl⟩ := list2 (l := ys) (by rw [h3, irange_len]; rfl)
  have hu : un2 [a, b] = some (a, b) := rfl
  show ((un2 [a, b]).bind fun w25 => lawA (k : Int) w25.1 w25.2) = _
  rw [hu, Option.bind_some]
  have ha := h4 a (by simp)
  have hb3 := h4 b (by simp)
  have : k = 1 ∨ k = 2 ∨ k = 3 ∨ k = 4 ∨ k = 5 ∨ k = 6 := by omega
  rcases this with rfl | rfl | rfl | rfl | rfl | rfl
  · exact law_n oa_1 (by decide) (by decide) ha hb3
  · exact law_n oa_2 (by decide) (by decide) ha hb3
  · exact law_n oa_3 (by decide) (by decide) ha hb3
  · exact law_n oa_4 (by decide) (by decide) ha hb3
  · exact law_n oa_5 (by decide) (by decide) ha hb3
  · exact law_n oa_6 (by decide) (by decide) ha hb3
end Mi.T
namespace Mi
theorem law_true : ∀ ns : List Int, ns.length ≤ 63 → (∀ z ∈ ns, PySem.Builtin.Int.intBits z ≤ 1048576) → φ_law [.scr ns] = some (.bl true) := fun ns _ _ => T.t_law_ok (T.t_law_true ns)
end Mi
namespace Mi.T
end Mi.T

namespace Mi
open PySem PySem.Spec PyProof.Rows L2 GxR
def top (i : Nat) : Stmt := PySem.Challenge.pw_relaybanks_k10_whole_order.main.body.getD i (.Pass ⟨0, 0, 0, 0⟩)
structure Fx (K : Frag) (mg : Str → Option Value) (base : Heap) (C : Cfg) : Prop where
  hK : C.K = K
  g_all : mg "all" = none
  g_bool : mg "bool" = none
  g_dict : mg "dict" = none
  g_int : mg "int" = none
  g_isinstance : mg "isinstance" = none
  g_len : mg "len" = none
  g_list : mg "list" = none
  g_max : mg "max" = none
  g_min : mg "min" = none
  g_range : mg "range" = none
  g_set : mg "set" = none
  g_sorted : mg "sorted" = none
  g_str : mg "str" = none
  g_sum : mg "sum" = none
  g_tuple : mg "tuple" = none
  g_zip : mg "zip" = none
  i_MOST_SPAN : ∃ t, mg "MOST_SPAN" = some (.int 9 t)
  m__law_taken : mg "_law_taken" = some (.ref (He.ga K "_law_taken"))
  k__law_taken : PySem.W.keepIn K (.ref (He.ga K "_law_taken")) = true
  f__law_taken : ∃ fd, FunD K "_law_taken" "_law_taken" (defArgs (top 19)) (defBody (top 19)) (defScope (top 19)) [] [] (He.ga K "_law_taken") fd
  m__law_alike : mg "_law_alike" = some (.ref (He.ga K "_law_alike"))
  k__law_alike : PySem.W.keepIn K (.ref (He.ga K "_law_alike")) = true
  f__law_alike : ∃ fd, FunD K "_law_alike" "_law_alike" (defArgs (top 21)) (defBody (top 21)) (defScope (top 21)) [] [] (He.ga K "_law_alike") fd
  m_is_memory : mg "is_memory" = some (.ref (He.ga K "is_memory"))
  k_is_memory : PySem.W.keepIn K (.ref (He.ga K "is_memory")) = true
  f_is_memory : ∃ fd, FunD K "is_memory" "is_memory" (defArgs (top 6)) (defBody (top 6)) (defScope (top 6)) [] [] (He.ga K "is_memory") fd
  tb_is_memory : TabB base mg (He.codeOf K ("is_memory", none)) (He.tabOf K (He.codeOf K ("is_memory", none)))
  tm_is_memory : He.tabOf K (He.codeOf K ("is_memory", none)) ∈ C.tt
  tc_is_memory : ∀ (oc : Value) (od : Option Addr) (osl : Array (Option Value)) (fd : FuncData), K.lookup (He.ga K "is_memory") = some ⟨oc, od, .func fd, osl⟩ → fd.code = .ref (He.codeOf K ("is_memory", none))
  m_need_memory : mg "need_memory" = some (.ref (He.ga K "need_memory"))
  k_need_memory : PySem.W.keepIn K (.ref (He.ga K "need_memory")) = true
  f_need_memory : ∃ fd, FunD K "need_memory" "need_memory" (defArgs (top 7)) (defBody (top 7)) (defScope (top 7)) [] [] (He.ga K "need_memory") fd
  m_need_pair : mg "need_pair" = some (.ref (He.ga K "need_pair"))
  k_need_pair : PySem.W.keepIn K (.ref (He.ga K "need_pair")) = true
  f_need_pair : ∃ fd, FunD K "need_pair" "need_pair" (defArgs (top 9)) (defBody (top 9)) (defScope (top 9)) [] [] (He.ga K "need_pair") fd
  m_from_counts : mg "from_counts" = some (.ref (He.ga K "from_counts"))
  k_from_counts : PySem.W.keepIn K (.ref (He.ga K "from_counts")) = true
  f_from_counts : ∃ fd, FunD K "from_counts" "from_counts" (defArgs (top 13)) (defBody (top 13)) (defScope (top 13)) [] [] (He.ga K "from_counts") fd
  m_counts : mg "counts" = some (.ref (He.ga K "counts"))
  k_counts : PySem.W.keepIn K (.ref (He.ga K "counts")) = true
  f_counts : ∃ fd, FunD K "counts" "counts" (defArgs (top 10)) (defBody (top 10)) (defScope (top 10)) [] [] (He.ga K "counts") fd
  m_meet : mg "meet" = some (.ref (He.ga K "meet"))
  k_meet : PySem.W.keepIn K (.ref (He.ga K "meet")) = true
  f_meet : ∃ fd, FunD K "meet" "meet" (defArgs (top 14)) (defBody (top 14)) (defScope (top 14)) [] [] (He.ga K "meet") fd
  m_join : mg "join" = some (.ref (He.ga K "join"))
  k_join : PySem.W.keepIn K (.ref (He.ga K "join")) = true
  f_join : ∃ fd, FunD K "join" "join" (defArgs (top 15)) (defBody (top 15)) (defScope (top 15)) [] [] (He.ga K "join") fd
  m_below : mg "below" = some (.ref (He.ga K "below"))
  k_below : PySem.W.keepIn K (.ref (He.ga K "below")) = true
  f_below : ∃ fd, FunD K "below" "below" (defArgs (top 11)) (defBody (top 11)) (defScope (top 11)) [] [] (He.ga K "below") fd
  tb_below : TabB base mg (He.codeOf K ("below", none)) (He.tabOf K (He.codeOf K ("below", none)))
  tm_below : He.tabOf K (He.codeOf K ("below", none)) ∈ C.tt
  tc_below : ∀ (oc : Value) (od : Option Addr) (osl : Array (Option Value)) (fd : FuncData), K.lookup (He.ga K "below") = some ⟨oc, od, .func fd, osl⟩ → fd.code = .ref (He.codeOf K ("below", none))
  m_is_below : mg "is_below" = some (.ref (He.ga K "is_below"))
  k_is_below : PySem.W.keepIn K (.ref (He.ga K "is_below")) = true
  f_is_below : ∃ fd, FunD K "is_below" "is_below" (defArgs (top 12)) (defBody (top 12)) (defScope (top 12)) [] [] (He.ga K "is_below") fd
  m_rank_of : mg "rank_of" = some (.ref (He.ga K "rank_of"))
  k_rank_of : PySem.W.keepIn K (.ref (He.ga K "rank_of")) = true
  f_rank_of : ∃ fd, FunD K "rank_of" "rank_of" (defArgs (top 16)) (defBody (top 16)) (defScope (top 16)) [] [] (He.ga K "rank_of") fd
  m_rank : mg "rank" = some (.ref (He.ga K "rank"))
  k_rank : PySem.W.keepIn K (.ref (He.ga K "rank")) = true
  f_rank : ∃ fd, FunD K "rank" "rank" (defArgs (top 17)) (defBody (top 17)) (defScope (top 17)) [] [] (He.ga K "rank") fd
  m__law_pick : mg "_law_pick" = some (.ref (He.ga K "_law_pick"))
  k__law_pick : PySem.W.keepIn K (.ref (He.ga K "_law_pick")) = true
  f__law_pick : ∃ fd, FunD K "_law_pick" "_law_pick" (defArgs (top 20)) (defBody (top 20)) (defScope (top 20)) [] [] (He.ga K "_law_pick") fd
  m__law_on : mg "_law_on" = some (.ref (He.ga K "_law_on"))
  k__law_on : PySem.W.keepIn K (.ref (He.ga K "_law_on")) = true
  f__law_on : ∃ fd, FunD K "_law_on" "_law_on" (defArgs (top 27)) (defBody (top 27)) (defScope (top 27)) [] [] (He.ga K "_law_on") fd
  m__law_all : mg "_law_all" = some (.ref (He.ga K "_law_all"))
  k__law_all : PySem.W.keepIn K (.ref (He.ga K "_law_all")) = true
  f__law_all : ∃ fd, FunD K "_law_all" "_law_all" (defArgs (top 24)) (defBody (top 24)) (defScope (top 24)) [] [] (He.ga K "_law_all") fd
  m_law : mg "law" = some (.ref (He.ga K "law"))
  k_law : PySem.W.keepIn K (.ref (He.ga K "law")) = true
  f_law : ∃ fd, FunD K "law" "law" (defArgs (top 28)) (defBody (top 28)) (defScope (top 28)) [] [] (He.ga K "law") fd
abbrev st__law_taken : Stmt := top 19
def N__law_taken : List Str := ["_law_row", "_law_many", "_law_found", "_law_cell"]
theorem sc__law_taken : FnScope N__law_taken ["_law_row", "_law_many"] (defScope st__law_taken) := ⟨rfl, rfl, rfl, by decide +kernel, rfl, by decide +kernel, by decide +kernel⟩
theorem d__law_taken {P : Program} {w : World} {K : Frag} {mg : Str → Option Value} {base : Heap} {C : Cfg} (Z : Fx K mg base C)  {cdv : Value} {A : Around} {outer : List Env} {s0 : Shared} {H : Hp} {E : XK} (hr : Room 1 (A.deeper (envOfC "_law_taken" (defScope st__law_taken) s0.heap.objs.size (He.ga K "_law_taken") (cdv)))) :
    PSs (cxOf CX0 P w K mg base N__law_taken "_law_taken" (defScope st__law_taken) (He.ga K "_law_taken") (cdv) A outer s0 H E).nox (defBody st__law_taken) (tS C s__law_taken) :=
  (css_cons (cs_if (ct_cmp (op_gtG hr.units) (gtG_ok Z.hK) cmpG_two cmpG_boo (ce_ix (ix_A (hu1 hr)) (ixA_ok Z.hK) ixA_two (ce_var (pv 0)) ce_int (fun _ _ => rfl)) ce_int (by rfl)) (css_cons (cs_name (fun q => ps_set (i := 2) sc__law_taken.nd rfl (by first | exact Or.inl rfl | exact Or.inr rfl) q) (ce_bin op_modN modF_ok modF_two (ce_callTy call_int1 intF_ok (by rfl) Z.g_int (by decide +kernel) (ca_cons (ce_ix (ix_A (hu1 hr)) (ixA_ok Z.hK) ixA_two (ce_var (pv 0)) ce_int (fun _ _ => rfl)) ca_nil)) (ce_var (pv 1))))
      (css_cons (cs_subA (fun q qi => ps_asg q (pg_sub (pv 0) qi (set_A (hu1 hr)))) (ce_bin op_fdivN fdivF_ok fdivF_two (ce_ix (ix_A (hu1 hr)) (ixA_ok Z.hK) ixA_two (ce_var (pv 0)) ce_int (fun _ _ => rfl)) (ce_var (pv 1))) ce_int)
      (css_one (cs_ret (ce_var (pv 2)))))) css_nil)
    (css_cons (cs_subA (fun q qi => ps_asg q (pg_sub (pv 0) qi (set_A (hu1 hr)))) (ce_bin op_addA (addF_ok Z.hK) addF_two (ce_ix (ix_A (hu1 hr)) (ixA_ok Z.hK) ixA_two (ce_var (pv 0)) ce_int (fun _ _ => rfl)) ce_int) ce_int)
    (css_cons (cs_if (ct_cmp (op_gtG hr.units) (gtG_ok Z.hK) cmpG_two cmpG_boo (ce_ix (ix_A (hu1 hr)) (ixA_ok Z.hK) ixA_two (ce_var (pv 0)) ce_int (fun _ _ => rfl)) (ce_callB call_lenA (lenA_ok Z.hK) (by rfl) Z.g_len (by decide +kernel) (ca_cons (ce_ix (ix_A (hu1 hr)) (ixA_ok Z.hK) ixA_two (ce_var (pv 0)) ce_int (fun _ _ => rfl)) ca_nil)) (by rfl)) (css_cons (cs_subA (fun q qi => ps_asg q (pg_sub (pv 0) qi (set_A (hu1 hr)))) (ce_bin op_modN modF_ok modF_two (ce_callTy call_int1 intF_ok (by rfl) Z.g_int (by decide +kernel) (ca_cons (ce_bin op_addA (addF_ok Z.hK) addF_two (ce_bin op_mulA mulF_ok mulF_two (ce_ix (ix_A (hu1 hr)) (ixA_ok Z.hK) ixA_two (ce_var (pv 0)) ce_int (fun _ _ => rfl)) ce_int) ce_int) ca_nil)) ce_int) ce_int)
      (css_one (cs_ret (ce_bin op_modN modF_ok modF_two (ce_callTy call_int1 intF_ok (by rfl) Z.g_int (by decide +kernel) (ca_cons (ce_bin op_fdivN fdivF_ok fdivF_two (ce_ix (ix_A (hu1 hr)) (ixA_ok Z.hK) ixA_two (ce_var (pv 0)) ce_int (fun _ _ => rfl)) ce_int) ca_nil)) (ce_var (pv 1)))))) css_nil)
    (css_cons (cs_name (fun q => ps_set (i := 3) sc__law_taken.nd rfl (by first | exact Or.inl rfl | exact Or.inr rfl) q) (ce_ix (ix_A (hu1 hr)) (ixA_ok Z.hK) ixA_two (ce_ix (ix_A (hu1 hr)) (ixA_ok Z.hK) ixA_two (ce_var (pv 0)) ce_int (fun _ _ => rfl)) (ce_bin op_sub subF_ok subF_two (ce_ix (ix_A (hu1 hr)) (ixA_ok Z.hK) ixA_two (ce_var (pv 0)) ce_int (fun _ _ => rfl)) ce_int) (fun _ _ => rfl)))
    (css_cons (cs_subA (fun q qi => ps_asg q (pg_sub (pv 0) qi (set_A (hu1 hr)))) (ce_bin op_modN modF_ok modF_two (ce_callTy call_int1 intF_ok (by rfl) Z.g_int (by decide +kernel) (ca_cons (ce_bin op_addA (addF_ok Z.hK) addF_two (ce_bin op_addA (addF_ok Z.hK) addF_two (ce_bin op_mulA mulF_ok mulF_two (ce_ix (ix_A (hu1 hr)) (ixA_ok Z.hK) ixA_two (ce_var (pv 0)) ce_int (fun _ _ => rfl)) ce_int) (ce_var (pv 3))) ce_int) ca_nil)) ce_int) ce_int)
    (css_cons (cs_if (ct_cmp (op_geG hr.units) (geG_ok Z.hK) cmpG_two cmpG_boo (ce_var (pv 3)) (ce_bin op_pow powF_ok powF_two ce_int ce_int) (by rfl)) (css_one (cs_subA (fun q qi => ps_asg q (pg_sub (pv 0) qi (set_A (hu1 hr)))) (ce_bin op_fdivN fdivF_ok fdivF_two (ce_var (pv 3)) (ce_var (pv 1))) ce_int)) css_nil)
    (css_one (cs_ret (ce_bin op_modN modF_ok modF_two (ce_callTy call_int1 intF_ok (by rfl) Z.g_int (by decide +kernel) (ca_cons (ce_var (pv 3)) ca_nil)) (ce_var (pv 1)))))))))))
theorem c__law_taken {P : Program} {w : World} {K : Frag} {mg : Str → Option Value} {base : Heap} {C : Cfg} (Z : Fx K mg base C) : ∃ fd, FnOk P w K mg base CX0 2 (He.ga K "_law_taken") fd ["_law_row", "_law_many"] (spO C 2 φ__law_taken) ∧ Binds K fd ["_law_row", "_law_many"] [] := by
  obtain ⟨fd, F⟩ := Z.f__law_taken
  refine ⟨fd, ?_, F.bindsN fun _ _ _ _ _ _ us hl => match us, hl with | [_, _], _ => rfl⟩
  exact fnO_of F sc__law_taken Z.hK (fun cdv A outer s0 H E hcd hr => d__law_taken Z  hr)
abbrev st__law_alike : Stmt := top 21
def N__law_alike : List Str := ["_law_found", "_law_due", "_law_k"]
theorem sc__law_alike : FnScope N__law_alike ["_law_found", "_law_due"] (defScope st__law_alike) := ⟨rfl, rfl, rfl, by decide +kernel, rfl, by decide +kernel, by decide +kernel⟩
theorem d__law_alike {P : Program} {w : World} {K : Frag} {mg : Str → Option Value} {base : Heap} {C : Cfg} (Z : Fx K mg base C)  {fd : FuncData} (B : Binds K fd ["_law_found", "_law_due"] []) {φ : List D → Option D} {k : Nat} (hk : 1 ≤ k) (ih : FnOk P w K mg base CX0 k (He.ga K "_law_alike") fd ["_law_found", "_law_due"] (spI C 2 φ)) {cdv : Value} {A : Around} {outer : List Env} {s0 : Shared} {H : Hp} {E : XK} (hr : Room k (A.deeper (envOfC "_law_alike" (defScope st__law_alike) s0.heap.objs.size (He.ga K "_law_alike") (cdv)))) :
    PSs (cxOf CX0 P w K mg base N__law_alike "_law_alike" (defScope st__law_alike) (He.ga K "_law_alike") (cdv) A outer s0 H E).nox (defBody st__law_alike) (tS C (s__law_alike φ)) :=
  (css_cons (cs_if (ct_truth (ce_isi2 Z.hK (T := .tuple) (U := .list) (fun q => pe_callB call_isiT (by rfl) Z.g_isinstance (by decide +kernel) (pa_cons q (pa_cons (pe_tup (pa_cons (pe_bltn (v := .ty "tuple") (by rfl) Z.g_tuple (by decide +kernel) rfl) (pa_cons (pe_bltn (v := .ty "list") (by rfl) Z.g_list (by decide +kernel) rfl) pa_nil))) pa_nil))) (ce_var (pv 1))) Z.hK (by intro _; rfl)) (css_cons (cs_if (cw_or (ct_notF (ct_truth (ce_isi2 Z.hK (T := .tuple) (U := .list) (fun q => pe_callB call_isiT (by rfl) Z.g_isinstance (by decide +kernel) (pa_cons q (pa_cons (pe_tup (pa_cons (pe_bltn (v := .ty "tuple") (by rfl) Z.g_tuple (by decide +kernel) rfl) (pa_cons (pe_bltn (v := .ty "list") (by rfl) Z.g_list (by decide +kernel) rfl) pa_nil))) pa_nil))) (ce_var (pv 0))) Z.hK (by intro _; rfl))) (cw_or1 (ct_cmp (op_neA hr.units) (neF_ok Z.hK) neF_two neF_boo (ce_isi Z.hK (T := .list) (fun q => pe_callB call_isi (by rfl) Z.g_isinstance (by decide +kernel) (pa_cons q (pa_cons (pe_bltn (v := .ty "list") (by rfl) Z.g_list (by decide +kernel) rfl) pa_nil))) (ce_var (pv 0))) (ce_isi Z.hK (T := .list) (fun q => pe_callB call_isi (by rfl) Z.g_isinstance (by decide +kernel) (pa_cons q (pa_cons (pe_bltn (v := .ty "list") (by rfl) Z.g_list (by decide +kernel) rfl) pa_nil))) (ce_var (pv 1))) (by rfl)))).pt (css_one (cs_ret ce_bl)) css_nil)
      (css_cons (cs_if (ct_cmp (op_neA hr.units) (neF_ok Z.hK) neF_two neF_boo (ce_callB call_lenA (lenA_ok Z.hK) (by rfl) Z.g_len (by decide +kernel) (ca_cons (ce_var (pv 0)) ca_nil)) (ce_callB call_lenA (lenA_ok Z.hK) (by rfl) Z.g_len (by decide +kernel) (ca_cons (ce_var (pv 1)) ca_nil)) (by rfl)) (css_one (cs_ret ce_bl)) css_nil)
      (css_one (cs_ret (ce_cmp (op_eqA hr.units) (eqF_ok Z.hK) eqF_two (cf_lcE (cf_lc (own := [("_law_k", 2)]) rfl sc__law_alike.nd (ci_range1 (by rfl) Z.g_range (ca_cons (ce_callB call_lenA (lenA_ok Z.hK) (by rfl) Z.g_len (by decide +kernel) (ca_cons (ce_var (pv 1)) ca_nil)) ca_nil)) (blkE (N2 := N__law_alike) (sc2 := defScope st__law_alike) rfl rfl ⟨rfl, by decide +kernel, by decide +kernel, by decide +kernel, by decide +kernel⟩) (fun _ _ _ _ _ => (cg_name (pg_name (i := 2) sc__law_alike.nd rfl (by first | exact Or.inl rfl | exact Or.inr rfl)))) (fun _ _ _ _ _ => (cts_one (ct_notF (ct_truth (ce_call ih hr (by rfl) Z.m__law_alike Z.k__law_alike B (ca_cons (ce_ix (ix_A (hu1 hr)) (ixA_ok Z.hK) ixA_two (ce_var (pv 0)) (ce_var (pv 2)) (fun _ _ => rfl)) (ca_cons (ce_ix (ix_A (hu1 hr)) (ixA_ok Z.hK) ixA_two (ce_var (pv 1)) (ce_var (pv 2)) (fun _ _ => rfl)) ca_nil)) rfl) Z.hK (by intro _; rfl))))) (fun _ _ _ _ _ => (ce_var (pv 2))) (by decide))) (ce_lst ca_nil) (by rfl)))))) css_nil)
    (css_cons (cs_if (cw_or (ct_cmp op_isN isNF_ok isNF_two isNF_boo (ce_var (pv 1)) ce_non (by rfl)) (cw_or1 (ct_truth (ce_isi Z.hK (T := .str) (fun q => pe_callB call_isi (by rfl) Z.g_isinstance (by decide +kernel) (pa_cons q (pa_cons (pe_bltn (v := .ty "str") (by rfl) Z.g_str (by decide +kernel) rfl) pa_nil))) (ce_var (pv 1))) Z.hK (by intro _; rfl)))).pt (css_one (cs_ret (ce_and (ce_cmp (op_eqA hr.units) (eqF_ok Z.hK) eqF_two (ce_var (pv 0)) (ce_var (pv 1)) (by rfl)) (ce_one (ce_cmp (op_eqA hr.units) (eqF_ok Z.hK) eqF_two (ce_isi Z.hK (T := .str) (fun q => pe_callB call_isi (by rfl) Z.g_isinstance (by decide +kernel) (pa_cons q (pa_cons (pe_bltn (v := .ty "str") (by rfl) Z.g_str (by decide +kernel) rfl) pa_nil))) (ce_var (pv 0))) (ce_isi Z.hK (T := .str) (fun q => pe_callB call_isi (by rfl) Z.g_isinstance (by decide +kernel) (pa_cons q (pa_cons (pe_bltn (v := .ty "str") (by rfl) Z.g_str (by decide +kernel) rfl) pa_nil))) (ce_var (pv 1))) (by rfl)) pe_one) Z.hK))) css_nil)
    (css_one (cs_ret (ce_and (ce_isi Z.hK (T := .int) (fun q => pe_callB call_isi (by rfl) Z.g_isinstance (by decide +kernel) (pa_cons q (pa_cons (pe_bltn (v := .ty "int") (by rfl) Z.g_int (by decide +kernel) rfl) pa_nil))) (ce_var (pv 0))) (ce_and (ce_cmp (op_eqA hr.units) (eqF_ok Z.hK) eqF_two (ce_isi Z.hK (T := .bool) (fun q => pe_callB call_isi (by rfl) Z.g_isinstance (by decide +kernel) (pa_cons q (pa_cons (pe_bltn (v := .ty "bool") (by rfl) Z.g_bool (by decide +kernel) rfl) pa_nil))) (ce_var (pv 0))) (ce_isi Z.hK (T := .bool) (fun q => pe_callB call_isi (by rfl) Z.g_isinstance (by decide +kernel) (pa_cons q (pa_cons (pe_bltn (v := .ty "bool") (by rfl) Z.g_bool (by decide +kernel) rfl) pa_nil))) (ce_var (pv 1))) (by rfl)) (ce_one (ce_cmp (op_eqA hr.units) (eqF_ok Z.hK) eqF_two (ce_var (pv 0)) (ce_var (pv 1)) (by rfl)) pe_one) Z.hK) Z.hK)))))
theorem c__law_alike {P : Program} {w : World} {K : Frag} {mg : Str → Option Value} {base : Heap} {C : Cfg} (Z : Fx K mg base C) : ∃ fd, FnOk P w K mg base CX0 8 (He.ga K "_law_alike") fd ["_law_found", "_law_due"] (spI C 2 (φ__law_alike 6)) ∧ Binds K fd ["_law_found", "_law_due"] [] := by
  obtain ⟨fd, F⟩ := Z.f__law_alike
  have B : Binds K fd ["_law_found", "_law_due"] [] := F.bindsN fun _ _ _ _ _ _ us hl => match us, hl with | [_, _], _ => rfl
  refine ⟨fd, ?_, B⟩
  have key : ∀ t : Nat, FnOk P w K mg base CX0 (1 + t) (He.ga K "_law_alike") fd ["_law_found", "_law_due"] (spI C 2 (φ__law_alike t)) := fun t => by
    induction t with
    | zero => exact fnI_none
    | succ t ih => exact fnI_of F sc__law_alike Z.hK fun cdv A outer s0 H E hcd hr => d__law_alike Z  B (by omega) ih hr
  exact (key 6).mono (by decide)
abbrev st_is_memory : Stmt := top 6
def N_is_memory : List Str := ["value"]
theorem sc_is_memory : FnScope N_is_memory ["value"] (defScope st_is_memory) := ⟨rfl, rfl, rfl, by decide +kernel, rfl, by decide +kernel, by decide +kernel⟩
theorem d_is_memory {P : Program} {w : World} {K : Frag} {mg : Str → Option Value} {base : Heap} {C : Cfg} (Z : Fx K mg base C)  {A : Around} {outer : List Env} {s0 : Shared} {H : Hp} {E : XK} (hr : Room 1 (A.deeper (envOfC "is_memory" (defScope st_is_memory) s0.heap.objs.size (He.ga K "is_memory") (.ref (He.codeOf K ("is_memory", none)))))) :
    PSs (cxOf CX0 P w K mg base N_is_memory "is_memory" (defScope st_is_memory) (He.ga K "is_memory") (.ref (He.codeOf K ("is_memory", none))) A outer s0 H E).nox (defBody st_is_memory) (tS C s_is_memory) :=
  (css_cons (cs_if (cw_or (ct_notF (ct_truth (ce_isi Z.hK (T := .str) (fun q => pe_callB call_isi (by rfl) Z.g_isinstance (by decide +kernel) (pa_cons q (pa_cons (pe_bltn (v := .ty "str") (by rfl) Z.g_str (by decide +kernel) rfl) pa_nil))) (ce_var (pv 0))) Z.hK (by intro _; rfl))) (cw_or1 (ct_notF (ct_chain (op_leG hr.units) (op_leG hr.units) (leG_ok Z.hK) (leG_ok Z.hK) cmpG_boo ce_int (ce_callB call_lenA (lenA_ok Z.hK) (by rfl) Z.g_len (by decide +kernel) (ca_cons (ce_var (pv 0)) ca_nil)) (ce_globI (by rfl) Z.i_MOST_SPAN))))).pt (css_one (cs_ret ce_bl)) css_nil)
    (css_one (cs_ret (ce_allS (fun q => pe_allS hr (by rfl) Z.g_all (by decide +kernel) Z.tb_is_memory rfl (genS_of rfl rfl (by decide +kernel) rfl rfl (by decide +kernel)) q (elt_in rfl rfl) (by intro _; rfl)) Z.tm_is_memory (ce_var (pv 0))))))
theorem c_is_memory {P : Program} {w : World} {K : Frag} {mg : Str → Option Value} {base : Heap} {C : Cfg} (Z : Fx K mg base C) : ∃ fd, FnOk P w K mg base CX0 2 (He.ga K "is_memory") fd ["value"] (spI C 1 φ_is_memory) ∧ Binds K fd ["value"] [] := by
  obtain ⟨fd, F⟩ := Z.f_is_memory
  refine ⟨fd, ?_, F.bindsN fun _ _ _ _ _ _ us hl => match us, hl with | [_], _ => rfl⟩
  exact fnI_of F sc_is_memory Z.hK (fun cdv A outer s0 H E hcd hr => by
    obtain ⟨_, _, _, _, _, _, _, _, _, _, _, lk, _⟩ := F.ex
    have e := (hcd _ _ _ _ lk).symm.trans (Z.tc_is_memory _ _ _ _ lk)
    subst e
    exact d_is_memory Z  hr)
abbrev st_need_memory : Stmt := top 7
def N_need_memory : List Str := ["memory"]
theorem sc_need_memory : FnScope N_need_memory ["memory"] (defScope st_need_memory) := ⟨rfl, rfl, rfl, by decide +kernel, rfl, by decide +kernel, by decide +kernel⟩
theorem d_need_memory {P : Program} {w : World} {K : Frag} {mg : Str → Option Value} {base : Heap} {C : Cfg} (Z : Fx K mg base C) {fd_is_memory : FuncData} (F_is_memory : FnOk P w K mg base CX0 2 (He.ga K "is_memory") fd_is_memory ["value"] (spI C 1 φ_is_memory)) (B_is_memory : Binds K fd_is_memory ["value"] []) {cdv : Value} {A : Around} {outer : List Env} {s0 : Shared} {H : Hp} {E : XK} (hr : Room 2 (A.deeper (envOfC "need_memory" (defScope st_need_memory) s0.heap.objs.size (He.ga K "need_memory") (cdv)))) :
    PSs (cxOf CX0 P w K mg base N_need_memory "need_memory" (defScope st_need_memory) (He.ga K "need_memory") (cdv) A outer s0 H E).nox (defBody st_need_memory) (tS C s_need_memory) :=
  (css_one (cs_if (ct_notF (ct_truth (ce_call (F_is_memory.mono (by decide)) hr (by rfl) Z.m_is_memory Z.k_is_memory B_is_memory (ca_cons (ce_var (pv 0)) ca_nil) rfl) Z.hK (by intro _; rfl))) (css_one cs_never) css_nil))
theorem c_need_memory {P : Program} {w : World} {K : Frag} {mg : Str → Option Value} {base : Heap} {C : Cfg} (Z : Fx K mg base C) : ∃ fd, FnOk P w K mg base CX0 3 (He.ga K "need_memory") fd ["memory"] (spI C 1 φ_need_memory) ∧ Binds K fd ["memory"] [] := by
  obtain ⟨fd, F⟩ := Z.f_need_memory
  obtain ⟨fd_is_memory, F_is_memory, B_is_memory⟩ := c_is_memory (P := P) (w := w) Z
  refine ⟨fd, ?_, F.bindsN fun _ _ _ _ _ _ us hl => match us, hl with | [_], _ => rfl⟩
  exact fnI_of F sc_need_memory Z.hK (fun cdv A outer s0 H E hcd hr => d_need_memory Z F_is_memory B_is_memory hr)
abbrev st_need_pair : Stmt := top 9
def N_need_pair : List Str := ["one", "other"]
theorem sc_need_pair : FnScope N_need_pair ["one", "other"] (defScope st_need_pair) := ⟨rfl, rfl, rfl, by decide +kernel, rfl, by decide +kernel, by decide +kernel⟩
theorem d_need_pair {P : Program} {w : World} {K : Frag} {mg : Str → Option Value} {base : Heap} {C : Cfg} (Z : Fx K mg base C) {fd_need_memory : FuncData} (F_need_memory : FnOk P w K mg base CX0 3 (He.ga K "need_memory") fd_need_memory ["memory"] (spI C 1 φ_need_memory)) (B_need_memory : Binds K fd_need_memory ["memory"] []) {cdv : Value} {A : Around} {outer : List Env} {s0 : Shared} {H : Hp} {E : XK} (hr : Room 3 (A.deeper (envOfC "need_pair" (defScope st_need_pair) s0.heap.objs.size (He.ga K "need_pair") (cdv)))) :
    PSs (cxOf CX0 P w K mg base N_need_pair "need_pair" (defScope st_need_pair) (He.ga K "need_pair") (cdv) A outer s0 H E).nox (defBody st_need_pair) (tS C s_need_pair) :=
  (css_cons (cs_exp (ce_call (F_need_memory.mono (by decide)) hr (by rfl) Z.m_need_memory Z.k_need_memory B_need_memory (ca_cons (ce_var (pv 0)) ca_nil) rfl))
    (css_cons (cs_exp (ce_call (F_need_memory.mono (by decide)) hr (by rfl) Z.m_need_memory Z.k_need_memory B_need_memory (ca_cons (ce_var (pv 1)) ca_nil) rfl))
    (css_one (cs_if (ct_cmp (op_neA hr.units) (neF_ok Z.hK) neF_two neF_boo (ce_callB call_lenA (lenA_ok Z.hK) (by rfl) Z.g_len (by decide +kernel) (ca_cons (ce_var (pv 1)) ca_nil)) (ce_callB call_lenA (lenA_ok Z.hK) (by rfl) Z.g_len (by decide +kernel) (ca_cons (ce_var (pv 0)) ca_nil)) (by rfl)) (css_one cs_never) css_nil))))
theorem c_need_pair {P : Program} {w : World} {K : Frag} {mg : Str → Option Value} {base : Heap} {C : Cfg} (Z : Fx K mg base C) : ∃ fd, FnOk P w K mg base CX0 4 (He.ga K "need_pair") fd ["one", "other"] (spI C 2 φ_need_pair) ∧ Binds K fd ["one", "other"] [] := by
  obtain ⟨fd, F⟩ := Z.f_need_pair
  obtain ⟨fd_need_memory, F_need_memory, B_need_memory⟩ := c_need_memory (P := P) (w := w) Z
  refine ⟨fd, ?_, F.bindsN fun _ _ _ _ _ _ us hl => match us, hl with | [_, _], _ => rfl⟩
  exact fnI_of F sc_need_pair Z.hK (fun cdv A outer s0 H E hcd hr => d_need_pair Z F_need_memory B_need_memory hr)
abbrev st_from_counts : Stmt := top 13
def N_from_counts : List Str := ["some", "found", "before", "one"]
theorem sc_from_counts : FnScope N_from_counts ["some"] (defScope st_from_counts) := ⟨rfl, rfl, rfl, by decide +kernel, rfl, by decide +kernel, by decide +kernel⟩
theorem d_from_counts {P : Program} {w : World} {K : Frag} {mg : Str → Option Value} {base : Heap} {C : Cfg} (Z : Fx K mg base C)  {cdv : Value} {A : Around} {outer : List Env} {s0 : Shared} {H : Hp} {E : XK} (hr : Room 1 (A.deeper (envOfC "from_counts" (defScope st_from_counts) s0.heap.objs.size (He.ga K "from_counts") (cdv)))) :
    PSs (cxOf CX0 P w K mg base N_from_counts "from_counts" (defScope st_from_counts) (He.ga K "from_counts") (cdv) A outer s0 H E).nox (defBody st_from_counts) (tS C s_from_counts) :=
  (css_cons (cs_asg (ce_tup (ca_cons (ce_str (by rfl)) (ca_cons ce_int ca_nil))) (cg_tup rfl Z.hK (cgs_cons (cg_name (pg_name (i := 1) sc_from_counts.nd rfl (by first | exact Or.inl rfl | exact Or.inr rfl))) (cgs_cons (cg_name (pg_name (i := 2) sc_from_counts.nd rfl (by first | exact Or.inl rfl | exact Or.inr rfl))) cgs_nil)) rfl))
    (css_cons (cs_for PassesOwn.never rfl (ci_any Z.hK (ce_var (pv 0))) (cg_name (pg_name (i := 3) sc_from_counts.nd rfl (by first | exact Or.inl rfl | exact Or.inr rfl))) (css_cons (cs_name (fun q => ps_set (i := 1) sc_from_counts.nd rfl (by first | exact Or.inl rfl | exact Or.inr rfl) q) (ce_bin op_addA (addF_ok Z.hK) addF_two (ce_var (pv 1)) (ce_ite (ct_cmp (op_gtG hr.units) (gtG_ok Z.hK) cmpG_two cmpG_boo (ce_var (pv 3)) (ce_var (pv 2)) (by rfl)) (ce_str (by rfl)) (ce_str (by rfl)))))
      (css_one (cs_name (fun q => ps_set (i := 2) sc_from_counts.nd rfl (by first | exact Or.inl rfl | exact Or.inr rfl) q) (ce_var (pv 3))))))
    (css_one (cs_ret (ce_var (pv 1))))))
theorem c_from_counts {P : Program} {w : World} {K : Frag} {mg : Str → Option Value} {base : Heap} {C : Cfg} (Z : Fx K mg base C) : ∃ fd, FnOk P w K mg base CX0 2 (He.ga K "from_counts") fd ["some"] (spI C 1 φ_from_counts) ∧ Binds K fd ["some"] [] := by
  obtain ⟨fd, F⟩ := Z.f_from_counts
  refine ⟨fd, ?_, F.bindsN fun _ _ _ _ _ _ us hl => match us, hl with | [_], _ => rfl⟩
  exact fnI_of F sc_from_counts Z.hK (fun cdv A outer s0 H E hcd hr => d_from_counts Z  hr)
abbrev st_counts : Stmt := top 10
def N_counts : List Str := ["memory", "k"]
theorem sc_counts : FnScope N_counts ["memory"] (defScope st_counts) := ⟨rfl, rfl, rfl, by decide +kernel, rfl, by decide +kernel, by decide +kernel⟩
theorem d_counts {P : Program} {w : World} {K : Frag} {mg : Str → Option Value} {base : Heap} {C : Cfg} (Z : Fx K mg base C)  {cdv : Value} {A : Around} {outer : List Env} {s0 : Shared} {H : Hp} {E : XK} (hr : Room 1 (A.deeper (envOfC "counts" (defScope st_counts) s0.heap.objs.size (He.ga K "counts") (cdv)))) :
    PSs (cxOf CX0 P w K mg base N_counts "counts" (defScope st_counts) (He.ga K "counts") (cdv) A outer s0 H E).nox (defBody st_counts) (tS C s_counts) :=
  (css_one (cs_ret (cf_lcE (cf_lc (own := [("k", 1)]) rfl sc_counts.nd (ci_range1 (by rfl) Z.g_range (ca_cons (ce_callB call_lenA (lenA_ok Z.hK) (by rfl) Z.g_len (by decide +kernel) (ca_cons (ce_var (pv 0)) ca_nil)) ca_nil)) (blkE (N2 := N_counts) (sc2 := defScope st_counts) rfl rfl ⟨rfl, by decide +kernel, by decide +kernel, by decide +kernel, by decide +kernel⟩) (fun _ _ _ _ _ => (cg_name (pg_name (i := 1) sc_counts.nd rfl (by first | exact Or.inl rfl | exact Or.inr rfl)))) (fun _ _ _ _ _ => cts_nil) (fun _ _ _ _ _ => (ce_strm countF_ok countF_str (fun q qa => pe_bm PySem.F.plainAttrs_str PySem.F.slot_str_count PySem.F.type_str_count mt_count q qa) (ce_sl2 Z.hK (ce_var (pv 0)) (ce_bin op_addA (addF_ok Z.hK) addF_two (ce_var (pv 1)) ce_int)) (ca_cons (ce_str (by rfl)) ca_nil))) (by decide)))))
theorem c_counts {P : Program} {w : World} {K : Frag} {mg : Str → Option Value} {base : Heap} {C : Cfg} (Z : Fx K mg base C) : ∃ fd, FnOk P w K mg base CX0 2 (He.ga K "counts") fd ["memory"] (spI C 1 φ_counts) ∧ Binds K fd ["memory"] [] := by
  obtain ⟨fd, F⟩ := Z.f_counts
  refine ⟨fd, ?_, F.bindsN fun _ _ _ _ _ _ us hl => match us, hl with | [_], _ => rfl⟩
  exact fnI_of F sc_counts Z.hK (fun cdv A outer s0 H E hcd hr => d_counts Z  hr)
abbrev st_meet : Stmt := top 14
def N_meet : List Str := ["one", "other", "a", "b"]
theorem sc_meet : FnScope N_meet ["one", "other"] (defScope st_meet) := ⟨rfl, rfl, rfl, by decide +kernel, rfl, by decide +kernel, by decide +kernel⟩
theorem d_meet {P : Program} {w : World} {K : Frag} {mg : Str → Option Value} {base : Heap} {C : Cfg} (Z : Fx K mg base C) {fd_need_pair : FuncData} (F_need_pair : FnOk P w K mg base CX0 4 (He.ga K "need_pair") fd_need_pair ["one", "other"] (spI C 2 φ_need_pair)) (B_need_pair : Binds K fd_need_pair ["one", "other"] []) {fd_from_counts : FuncData} (F_from_counts : FnOk P w K mg base CX0 2 (He.ga K "from_counts") fd_from_counts ["some"] (spI C 1 φ_from_counts)) (B_from_counts : Binds K fd_from_counts ["some"] []) {fd_counts : FuncData} (F_counts : FnOk P w K mg base CX0 2 (He.ga K "counts") fd_counts ["memory"] (spI C 1 φ_counts)) (B_counts : Binds K fd_counts ["memory"] []) {cdv : Value} {A : Around} {outer : List Env} {s0 : Shared} {H : Hp} {E : XK} (hr : Room 4 (A.deeper (envOfC "meet" (defScope st_meet) s0.heap.objs.size (He.ga K "meet") (cdv)))) :
    PSs (cxOf CX0 P w K mg base N_meet "meet" (defScope st_meet) (He.ga K "meet") (cdv) A outer s0 H E).nox (defBody st_meet) (tS C s_meet) :=
  (css_cons (cs_exp (ce_call (F_need_pair.mono (by decide)) hr (by rfl) Z.m_need_pair Z.k_need_pair B_need_pair (ca_cons (ce_var (pv 0)) (ca_cons (ce_var (pv 1)) ca_nil)) rfl))
    (css_one (cs_ret (ce_call (F_from_counts.mono (by decide)) hr (by rfl) Z.m_from_counts Z.k_from_counts B_from_counts (ca_cons (cf_lcE (cf_lc (own := [("a", 2), ("b", 3)]) rfl sc_meet.nd (ci_zip2 (by rfl) Z.g_zip (ca_cons (ce_call (F_counts.mono (by decide)) hr (by rfl) Z.m_counts Z.k_counts B_counts (ca_cons (ce_var (pv 0)) ca_nil) rfl) (ca_cons (ce_call (F_counts.mono (by decide)) hr (by rfl) Z.m_counts Z.k_counts B_counts (ca_cons (ce_var (pv 1)) ca_nil) rfl) ca_nil))) (blkE (N2 := N_meet) (sc2 := defScope st_meet) rfl rfl ⟨rfl, by decide +kernel, by decide +kernel, by decide +kernel, by decide +kernel⟩) (fun _ _ _ _ _ => (cg_tup rfl Z.hK (cgs_cons (cg_name (pg_name (i := 2) sc_meet.nd rfl (by first | exact Or.inl rfl | exact Or.inr rfl))) (cgs_cons (cg_name (pg_name (i := 3) sc_meet.nd rfl (by first | exact Or.inl rfl | exact Or.inr rfl))) cgs_nil)) rfl)) (fun _ _ _ _ _ => cts_nil) (fun _ _ _ _ _ => (ce_callB (call_min2 rfl) min2F_ok (by rfl) Z.g_min (by decide +kernel) (ca_cons (ce_var (pv 2)) (ca_cons (ce_var (pv 3)) ca_nil)))) (by decide))) ca_nil) rfl))))
theorem c_meet {P : Program} {w : World} {K : Frag} {mg : Str → Option Value} {base : Heap} {C : Cfg} (Z : Fx K mg base C) : ∃ fd, FnOk P w K mg base CX0 5 (He.ga K "meet") fd ["one", "other"] (spI C 2 φ_meet) ∧ Binds K fd ["one", "other"] [] := by
  obtain ⟨fd, F⟩ := Z.f_meet
  obtain ⟨fd_need_pair, F_need_pair, B_need_pair⟩ := c_need_pair (P := P) (w := w) Z
  obtain ⟨fd_from_counts, F_from_counts, B_from_counts⟩ := c_from_counts (P := P) (w := w) Z
  obtain ⟨fd_counts, F_counts, B_counts⟩ := c_counts (P := P) (w := w) Z
  refine ⟨fd, ?_, F.bindsN fun _ _ _ _ _ _ us hl => match us, hl with | [_, _], _ => rfl⟩
  exact fnI_of F sc_meet Z.hK (fun cdv A outer s0 H E hcd hr => d_meet Z F_need_pair B_need_pair F_from_counts B_from_counts F_counts B_counts hr)
abbrev st_join : Stmt := top 15
def N_join : List Str := ["one", "other", "a", "b"]
theorem sc_join : FnScope N_join ["one", "other"] (defScope st_join) := ⟨rfl, rfl, rfl, by decide +kernel, rfl, by decide +kernel, by decide +kernel⟩
theorem d_join {P : Program} {w : World} {K : Frag} {mg : Str → Option Value} {base : Heap} {C : Cfg} (Z : Fx K mg base C) {fd_need_pair : FuncData} (F_need_pair : FnOk P w K mg base CX0 4 (He.ga K "need_pair") fd_need_pair ["one", "other"] (spI C 2 φ_need_pair)) (B_need_pair : Binds K fd_need_pair ["one", "other"] []) {fd_from_counts : FuncData} (F_from_counts : FnOk P w K mg base CX0 2 (He.ga K "from_counts") fd_from_counts ["some"] (spI C 1 φ_from_counts)) (B_from_counts : Binds K fd_from_counts ["some"] []) {fd_counts : FuncData} (F_counts : FnOk P w K mg base CX0 2 (He.ga K "counts") fd_counts ["memory"] (spI C 1 φ_counts)) (B_counts : Binds K fd_counts ["memory"] []) {cdv : Value} {A : Around} {outer : List Env} {s0 : Shared} {H : Hp} {E : XK} (hr : Room 4 (A.deeper (envOfC "join" (defScope st_join) s0.heap.objs.size (He.ga K "join") (cdv)))) :
    PSs (cxOf CX0 P w K mg base N_join "join" (defScope st_join) (He.ga K "join") (cdv) A outer s0 H E).nox (defBody st_join) (tS C s_join) :=
  (css_cons (cs_exp (ce_call (F_need_pair.mono (by decide)) hr (by rfl) Z.m_need_pair Z.k_need_pair B_need_pair (ca_cons (ce_var (pv 0)) (ca_cons (ce_var (pv 1)) ca_nil)) rfl))
    (css_one (cs_ret (ce_call (F_from_counts.mono (by decide)) hr (by rfl) Z.m_from_counts Z.k_from_counts B_from_counts (ca_cons (cf_lcE (cf_lc (own := [("a", 2), ("b", 3)]) rfl sc_join.nd (ci_zip2 (by rfl) Z.g_zip (ca_cons (ce_call (F_counts.mono (by decide)) hr (by rfl) Z.m_counts Z.k_counts B_counts (ca_cons (ce_var (pv 0)) ca_nil) rfl) (ca_cons (ce_call (F_counts.mono (by decide)) hr (by rfl) Z.m_counts Z.k_counts B_counts (ca_cons (ce_var (pv 1)) ca_nil) rfl) ca_nil))) (blkE (N2 := N_join) (sc2 := defScope st_join) rfl rfl ⟨rfl, by decide +kernel, by decide +kernel, by decide +kernel, by decide +kernel⟩) (fun _ _ _ _ _ => (cg_tup rfl Z.hK (cgs_cons (cg_name (pg_name (i := 2) sc_join.nd rfl (by first | exact Or.inl rfl | exact Or.inr rfl))) (cgs_cons (cg_name (pg_name (i := 3) sc_join.nd rfl (by first | exact Or.inl rfl | exact Or.inr rfl))) cgs_nil)) rfl)) (fun _ _ _ _ _ => cts_nil) (fun _ _ _ _ _ => (ce_callB (call_max2 rfl) max2F_ok (by rfl) Z.g_max (by decide +kernel) (ca_cons (ce_var (pv 2)) (ca_cons (ce_var (pv 3)) ca_nil)))) (by decide))) ca_nil) rfl))))
theorem c_join {P : Program} {w : World} {K : Frag} {mg : Str → Option Value} {base : Heap} {C : Cfg} (Z : Fx K mg base C) : ∃ fd, FnOk P w K mg base CX0 5 (He.ga K "join") fd ["one", "other"] (spI C 2 φ_join) ∧ Binds K fd ["one", "other"] [] := by
  obtain ⟨fd, F⟩ := Z.f_join
  obtain ⟨fd_need_pair, F_need_pair, B_need_pair⟩ := c_need_pair (P := P) (w := w) Z
  obtain ⟨fd_from_counts, F_from_counts, B_from_counts⟩ := c_from_counts (P := P) (w := w) Z
  obtain ⟨fd_counts, F_counts, B_counts⟩ := c_counts (P := P) (w := w) Z
  refine ⟨fd, ?_, F.bindsN fun _ _ _ _ _ _ us hl => match us, hl with | [_, _], _ => rfl⟩
  exact fnI_of F sc_join Z.hK (fun cdv A outer s0 H E hcd hr => d_join Z F_need_pair B_need_pair F_from_counts B_from_counts F_counts B_counts hr)
abbrev st_below : Stmt := top 11
def N_below : List Str := ["one", "other"]
theorem sc_below : FnScope N_below ["one", "other"] (defScope st_below) := ⟨rfl, rfl, rfl, by decide +kernel, rfl, by decide +kernel, by decide +kernel⟩
theorem d_below {P : Program} {w : World} {K : Frag} {mg : Str → Option Value} {base : Heap} {C : Cfg} (Z : Fx K mg base C) {fd_counts : FuncData} (F_counts : FnOk P w K mg base CX0 2 (He.ga K "counts") fd_counts ["memory"] (spI C 1 φ_counts)) (B_counts : Binds K fd_counts ["memory"] []) {A : Around} {outer : List Env} {s0 : Shared} {H : Hp} {E : XK} (hr : Room 2 (A.deeper (envOfC "below" (defScope st_below) s0.heap.objs.size (He.ga K "below") (.ref (He.codeOf K ("below", none)))))) :
    PSs (cxOf CX0 P w K mg base N_below "below" (defScope st_below) (He.ga K "below") (.ref (He.codeOf K ("below", none))) A outer s0 H E).nox (defBody st_below) (tS C s_below) :=
  (css_one (cs_ret (ce_allZ (fun q => pe_allZ hr (by rfl) Z.g_all (by decide +kernel) (by rfl) Z.g_zip Z.tb_below rfl (genZ_of rfl rfl (by decide +kernel) rfl rfl rfl (by decide) (by decide +kernel)) q (eltz_le rfl rfl rfl)) Z.tm_below (ca_cons (ce_call (F_counts.mono (by decide)) hr (by rfl) Z.m_counts Z.k_counts B_counts (ca_cons (ce_var (pv 0)) ca_nil) rfl) (ca_cons (ce_call (F_counts.mono (by decide)) hr (by rfl) Z.m_counts Z.k_counts B_counts (ca_cons (ce_var (pv 1)) ca_nil) rfl) ca_nil)))))
theorem c_below {P : Program} {w : World} {K : Frag} {mg : Str → Option Value} {base : Heap} {C : Cfg} (Z : Fx K mg base C) : ∃ fd, FnOk P w K mg base CX0 3 (He.ga K "below") fd ["one", "other"] (spI C 2 φ_below) ∧ Binds K fd ["one", "other"] [] := by
  obtain ⟨fd, F⟩ := Z.f_below
  obtain ⟨fd_counts, F_counts, B_counts⟩ := c_counts (P := P) (w := w) Z
  refine ⟨fd, ?_, F.bindsN fun _ _ _ _ _ _ us hl => match us, hl with | [_, _], _ => rfl⟩
  exact fnI_of F sc_below Z.hK (fun cdv A outer s0 H E hcd hr => by
    obtain ⟨_, _, _, _, _, _, _, _, _, _, _, lk, _⟩ := F.ex
    have e := (hcd _ _ _ _ lk).symm.trans (Z.tc_below _ _ _ _ lk)
    subst e
    exact d_below Z F_counts B_counts hr)
abbrev st_is_below : Stmt := top 12
def N_is_below : List Str := ["one", "other"]
theorem sc_is_below : FnScope N_is_below ["one", "other"] (defScope st_is_below) := ⟨rfl, rfl, rfl, by decide +kernel, rfl, by decide +kernel, by decide +kernel⟩
theorem d_is_below {P : Program} {w : World} {K : Frag} {mg : Str → Option Value} {base : Heap} {C : Cfg} (Z : Fx K mg base C) {fd_need_pair : FuncData} (F_need_pair : FnOk P w K mg base CX0 4 (He.ga K "need_pair") fd_need_pair ["one", "other"] (spI C 2 φ_need_pair)) (B_need_pair : Binds K fd_need_pair ["one", "other"] []) {fd_below : FuncData} (F_below : FnOk P w K mg base CX0 3 (He.ga K "below") fd_below ["one", "other"] (spI C 2 φ_below)) (B_below : Binds K fd_below ["one", "other"] []) {cdv : Value} {A : Around} {outer : List Env} {s0 : Shared} {H : Hp} {E : XK} (hr : Room 4 (A.deeper (envOfC "is_below" (defScope st_is_below) s0.heap.objs.size (He.ga K "is_below") (cdv)))) :
    PSs (cxOf CX0 P w K mg base N_is_below "is_below" (defScope st_is_below) (He.ga K "is_below") (cdv) A outer s0 H E).nox (defBody st_is_below) (tS C s_is_below) :=
  (css_cons (cs_exp (ce_call (F_need_pair.mono (by decide)) hr (by rfl) Z.m_need_pair Z.k_need_pair B_need_pair (ca_cons (ce_var (pv 0)) (ca_cons (ce_var (pv 1)) ca_nil)) rfl))
    (css_one (cs_ret (ce_call (F_below.mono (by decide)) hr (by rfl) Z.m_below Z.k_below B_below (ca_cons (ce_var (pv 0)) (ca_cons (ce_var (pv 1)) ca_nil)) rfl))))
theorem c_is_below {P : Program} {w : World} {K : Frag} {mg : Str → Option Value} {base : Heap} {C : Cfg} (Z : Fx K mg base C) : ∃ fd, FnOk P w K mg base CX0 5 (He.ga K "is_below") fd ["one", "other"] (spI C 2 φ_is_below) ∧ Binds K fd ["one", "other"] [] := by
  obtain ⟨fd, F⟩ := Z.f_is_below
  obtain ⟨fd_need_pair, F_need_pair, B_need_pair⟩ := c_need_pair (P := P) (w := w) Z
  obtain ⟨fd_below, F_below, B_below⟩ := c_below (P := P) (w := w) Z
  refine ⟨fd, ?_, F.bindsN fun _ _ _ _ _ _ us hl => match us, hl with | [_, _], _ => rfl⟩
  exact fnI_of F sc_is_below Z.hK (fun cdv A outer s0 H E hcd hr => d_is_below Z F_need_pair B_need_pair F_below B_below hr)
abbrev st_rank_of : Stmt := top 16
def N_rank_of : List Str := ["memory"]
theorem sc_rank_of : FnScope N_rank_of ["memory"] (defScope st_rank_of) := ⟨rfl, rfl, rfl, by decide +kernel, rfl, by decide +kernel, by decide +kernel⟩
theorem d_rank_of {P : Program} {w : World} {K : Frag} {mg : Str → Option Value} {base : Heap} {C : Cfg} (Z : Fx K mg base C) {fd_counts : FuncData} (F_counts : FnOk P w K mg base CX0 2 (He.ga K "counts") fd_counts ["memory"] (spI C 1 φ_counts)) (B_counts : Binds K fd_counts ["memory"] []) {cdv : Value} {A : Around} {outer : List Env} {s0 : Shared} {H : Hp} {E : XK} (hr : Room 2 (A.deeper (envOfC "rank_of" (defScope st_rank_of) s0.heap.objs.size (He.ga K "rank_of") (cdv)))) :
    PSs (cxOf CX0 P w K mg base N_rank_of "rank_of" (defScope st_rank_of) (He.ga K "rank_of") (cdv) A outer s0 H E).nox (defBody st_rank_of) (tS C s_rank_of) :=
  (css_one (cs_ret (ce_callB (cr_sumI rfl) sumIF_ok (by rfl) Z.g_sum (by decide +kernel) (ca_cons (ce_call (F_counts.mono (by decide)) hr (by rfl) Z.m_counts Z.k_counts B_counts (ca_cons (ce_var (pv 0)) ca_nil) rfl) ca_nil))))
theorem c_rank_of {P : Program} {w : World} {K : Frag} {mg : Str → Option Value} {base : Heap} {C : Cfg} (Z : Fx K mg base C) : ∃ fd, FnOk P w K mg base CX0 3 (He.ga K "rank_of") fd ["memory"] (spI C 1 φ_rank_of) ∧ Binds K fd ["memory"] [] := by
  obtain ⟨fd, F⟩ := Z.f_rank_of
  obtain ⟨fd_counts, F_counts, B_counts⟩ := c_counts (P := P) (w := w) Z
  refine ⟨fd, ?_, F.bindsN fun _ _ _ _ _ _ us hl => match us, hl with | [_], _ => rfl⟩
  exact fnI_of F sc_rank_of Z.hK (fun cdv A outer s0 H E hcd hr => d_rank_of Z F_counts B_counts hr)
abbrev st_rank : Stmt := top 17
def N_rank : List Str := ["memory"]
theorem sc_rank : FnScope N_rank ["memory"] (defScope st_rank) := ⟨rfl, rfl, rfl, by decide +kernel, rfl, by decide +kernel, by decide +kernel⟩
theorem d_rank {P : Program} {w : World} {K : Frag} {mg : Str → Option Value} {base : Heap} {C : Cfg} (Z : Fx K mg base C) {fd_need_memory : FuncData} (F_need_memory : FnOk P w K mg base CX0 3 (He.ga K "need_memory") fd_need_memory ["memory"] (spI C 1 φ_need_memory)) (B_need_memory : Binds K fd_need_memory ["memory"] []) {fd_rank_of : FuncData} (F_rank_of : FnOk P w K mg base CX0 3 (He.ga K "rank_of") fd_rank_of ["memory"] (spI C 1 φ_rank_of)) (B_rank_of : Binds K fd_rank_of ["memory"] []) {cdv : Value} {A : Around} {outer : List Env} {s0 : Shared} {H : Hp} {E : XK} (hr : Room 3 (A.deeper (envOfC "rank" (defScope st_rank) s0.heap.objs.size (He.ga K "rank") (cdv)))) :
    PSs (cxOf CX0 P w K mg base N_rank "rank" (defScope st_rank) (He.ga K "rank") (cdv) A outer s0 H E).nox (defBody st_rank) (tS C s_rank) :=
  (css_cons (cs_exp (ce_call (F_need_memory.mono (by decide)) hr (by rfl) Z.m_need_memory Z.k_need_memory B_need_memory (ca_cons (ce_var (pv 0)) ca_nil) rfl))
    (css_one (cs_ret (ce_call (F_rank_of.mono (by decide)) hr (by rfl) Z.m_rank_of Z.k_rank_of B_rank_of (ca_cons (ce_var (pv 0)) ca_nil) rfl))))
theorem c_rank {P : Program} {w : World} {K : Frag} {mg : Str → Option Value} {base : Heap} {C : Cfg} (Z : Fx K mg base C) : ∃ fd, FnOk P w K mg base CX0 4 (He.ga K "rank") fd ["memory"] (spI C 1 φ_rank) ∧ Binds K fd ["memory"] [] := by
  obtain ⟨fd, F⟩ := Z.f_rank
  obtain ⟨fd_need_memory, F_need_memory, B_need_memory⟩ := c_need_memory (P := P) (w := w) Z
  obtain ⟨fd_rank_of, F_rank_of, B_rank_of⟩ := c_rank_of (P := P) (w := w) Z
  refine ⟨fd, ?_, F.bindsN fun _ _ _ _ _ _ us hl => match us, hl with | [_], _ => rfl⟩
  exact fnI_of F sc_rank Z.hK (fun cdv A outer s0 H E hcd hr => d_rank Z F_need_memory B_need_memory F_rank_of B_rank_of hr)
abbrev st__law_pick : Stmt := top 20
def N__law_pick : List Str := ["_law_row", "_law_things"]
theorem sc__law_pick : FnScope N__law_pick ["_law_row", "_law_things"] (defScope st__law_pick) := ⟨rfl, rfl, rfl, by decide +kernel, rfl, by decide +kernel, by decide +kernel⟩
theorem d__law_pick {P : Program} {w : World} {K : Frag} {mg : Str → Option Value} {base : Heap} {C : Cfg} (Z : Fx K mg base C) {fd__law_taken : FuncData} (F__law_taken : FnOk P w K mg base CX0 2 (He.ga K "_law_taken") fd__law_taken ["_law_row", "_law_many"] (spO C 2 φ__law_taken)) (B__law_taken : Binds K fd__law_taken ["_law_row", "_law_many"] []) {cdv : Value} {A : Around} {outer : List Env} {s0 : Shared} {H : Hp} {E : XK} (hr : Room 2 (A.deeper (envOfC "_law_pick" (defScope st__law_pick) s0.heap.objs.size (He.ga K "_law_pick") (cdv)))) :
    PSs (cxOf CX0 P w K mg base N__law_pick "_law_pick" (defScope st__law_pick) (He.ga K "_law_pick") (cdv) A outer s0 H E).nox (defBody st__law_pick) (tS C s__law_pick) :=
  (css_one (cs_ret (ce_ix (ix_A (hu1 hr)) (ixA_ok Z.hK) ixA_two (ce_var (pv 1)) (ce_callO (F__law_taken.mono (by decide)) hr (by rfl) Z.m__law_taken Z.k__law_taken B__law_taken (pv 0) (ca_cons (ce_callB call_lenA (lenA_ok Z.hK) (by rfl) Z.g_len (by decide +kernel) (ca_cons (ce_var (pv 1)) ca_nil)) ca_nil) rfl) (fun _ _ => rfl))))
theorem c__law_pick {P : Program} {w : World} {K : Frag} {mg : Str → Option Value} {base : Heap} {C : Cfg} (Z : Fx K mg base C) : ∃ fd, FnOk P w K mg base CX0 3 (He.ga K "_law_pick") fd ["_law_row", "_law_things"] (spO C 2 φ__law_pick) ∧ Binds K fd ["_law_row", "_law_things"] [] := by
  obtain ⟨fd, F⟩ := Z.f__law_pick
  obtain ⟨fd__law_taken, F__law_taken, B__law_taken⟩ := c__law_taken (P := P) (w := w) Z
  refine ⟨fd, ?_, F.bindsN fun _ _ _ _ _ _ us hl => match us, hl with | [_, _], _ => rfl⟩
  exact fnO_of F sc__law_pick Z.hK (fun cdv A outer s0 H E hcd hr => d__law_pick Z F__law_taken B__law_taken hr)
abbrev st__law_on : Stmt := top 27
def N__law_on : List Str := ["_law_memory_here", "_law_span", "_law_found", "_law_ones", "_law_zeros", "_law_high", "_law_low", "_law_first", "_law_last", "_law_k"]
theorem sc__law_on : FnScope N__law_on ["_law_memory_here"] (defScope st__law_on) := ⟨rfl, rfl, rfl, by decide +kernel, rfl, by decide +kernel, by decide +kernel⟩
theorem d__law_on {P : Program} {w : World} {K : Frag} {mg : Str → Option Value} {base : Heap} {C : Cfg} (Z : Fx K mg base C)  {cdv : Value} {A : Around} {outer : List Env} {s0 : Shared} {H : Hp} {E : XK} (hr : Room 1 (A.deeper (envOfC "_law_on" (defScope st__law_on) s0.heap.objs.size (He.ga K "_law_on") (cdv)))) :
    PSs (cxOf CX0 P w K mg base N__law_on "_law_on" (defScope st__law_on) (He.ga K "_law_on") (cdv) A outer s0 H E).nox (defBody st__law_on) (tS C s__law_on) :=
  (css_cons (cs_parO2 (i := 1) (j := 2) rfl sc__law_on.nd rfl rfl (by decide) rfl rfl rfl (cp_keep (ce_callB call_lenA (lenA_ok Z.hK) (by rfl) Z.g_len (by decide +kernel) (ca_cons (ce_var (pv 0)) ca_nil)) (cp_own (cf_lst ca_nil) cp_nil)) (by rfl))
    (css_cons (cs_par (i := 3) (j := 4) rfl sc__law_on.nd rfl rfl (by decide) rfl rfl (ca_cons (cf_lcE (cf_lc (own := [("_law_k", 9)]) rfl sc__law_on.nd (ci_range1 (by rfl) Z.g_range (ca_cons (ce_var (pv 1)) ca_nil)) (blkE (N2 := N__law_on) (sc2 := defScope st__law_on) rfl rfl ⟨rfl, by decide +kernel, by decide +kernel, by decide +kernel, by decide +kernel⟩) (fun _ _ _ _ _ => (cg_name (pg_name (i := 9) sc__law_on.nd rfl (by first | exact Or.inl rfl | exact Or.inr rfl)))) (fun _ _ _ _ _ => (cts_one (ct_cmp (op_eqA hr.units) (eqF_ok Z.hK) eqF_two eqF_boo (ce_ix (ix_A (hu1 hr)) (ixA_ok Z.hK) ixA_two (ce_var (pv 0)) (ce_var (pv 9)) (fun _ _ => rfl)) (ce_str (by rfl)) (by rfl)))) (fun _ _ _ _ _ => (ce_var (pv 9))) (by decide))) (ca_cons (cf_lcE (cf_lc (own := [("_law_k", 9)]) rfl sc__law_on.nd (ci_range1 (by rfl) Z.g_range (ca_cons (ce_var (pv 1)) ca_nil)) (blkE (N2 := N__law_on) (sc2 := defScope st__law_on) rfl rfl ⟨rfl, by decide +kernel, by decide +kernel, by decide +kernel, by decide +kernel⟩) (fun _ _ _ _ _ => (cg_name (pg_name (i := 9) sc__law_on.nd rfl (by first | exact Or.inl rfl | exact Or.inr rfl)))) (fun _ _ _ _ _ => (cts_one (ct_cmp (op_eqA hr.units) (eqF_ok Z.hK) eqF_two eqF_boo (ce_ix (ix_A (hu1 hr)) (ixA_ok Z.hK) ixA_two (ce_var (pv 0)) (ce_var (pv 9)) (fun _ _ => rfl)) (ce_str (by rfl)) (by rfl)))) (fun _ _ _ _ _ => (ce_var (pv 9))) (by decide))) ca_nil)) (by rfl))
    (css_cons (cs_for PassesOwn.never rfl (ci_range2 (by rfl) Z.g_range (ca_cons ce_int (ca_cons (ce_bin op_addA (addF_ok Z.hK) addF_two (ce_var (pv 1)) ce_int) ca_nil))) (cg_name (pg_name (i := 5) sc__law_on.nd rfl (by first | exact Or.inl rfl | exact Or.inr rfl))) (css_one (cs_for PassesOwn.never rfl (ci_range1 (by rfl) Z.g_range (ca_cons (ce_var (pv 5)) ca_nil)) (cg_name (pg_name (i := 6) sc__law_on.nd rfl (by first | exact Or.inl rfl | exact Or.inr rfl))) (css_cons (cs_name (fun q => ps_set (i := 7) sc__law_on.nd rfl (by first | exact Or.inl rfl | exact Or.inr rfl) q) (ce_ite (ct_cmp (op_gtG hr.units) (gtG_ok Z.hK) cmpG_two cmpG_boo (ce_callB call_lenA (lenA_ok Z.hK) (by rfl) Z.g_len (by decide +kernel) (ca_cons (ce_var (pv 3)) ca_nil)) (ce_var (pv 6)) (by rfl)) (ce_ix (ix_A (hu1 hr)) (ixA_ok Z.hK) ixA_two (ce_var (pv 3)) (ce_var (pv 6)) (fun _ _ => rfl)) (ce_var (pv 1))))
        (css_cons (cs_name (fun q => ps_set (i := 8) sc__law_on.nd rfl (by first | exact Or.inl rfl | exact Or.inr rfl) q) (ce_ite (ct_cmp (op_gtG hr.units) (gtG_ok Z.hK) cmpG_two cmpG_boo (ce_callB call_lenA (lenA_ok Z.hK) (by rfl) Z.g_len (by decide +kernel) (ca_cons (ce_var (pv 4)) ca_nil)) (ce_bin op_sub subF_ok subF_two (ce_var (pv 1)) (ce_var (pv 5))) (by rfl)) (ce_ix (ix_A (hu1 hr)) (ixA_ok Z.hK) ixA_two (ce_var (pv 4)) (ce_bin op_sub subF_ok subF_two (ce_var (pv 1)) (ce_var (pv 5))) (fun _ _ => rfl)) (ce_var (pv 1))))
        (css_one (cs_if (ct_cmp (op_ltG hr.units) (ltG_ok Z.hK) cmpG_two cmpG_boo (ce_var (pv 7)) (ce_var (pv 8)) (by rfl)) (css_one (cs_app (fun q => ps_expr (pe_bm PySem.F.plainAttrs_list PySem.F.slot_list_append PySem.F.type_list_append mt_append (pv 2) (pa_cons q pa_nil))) Z.hK (ce_tup (ca_cons (ce_var (pv 5)) (ca_cons (ce_var (pv 6)) ca_nil))))) css_nil)))))))
    (css_one (cs_ret (ce_var (pv 2)))))))
theorem c__law_on {P : Program} {w : World} {K : Frag} {mg : Str → Option Value} {base : Heap} {C : Cfg} (Z : Fx K mg base C) : ∃ fd, FnOk P w K mg base CX0 2 (He.ga K "_law_on") fd ["_law_memory_here"] (spI C 1 φ__law_on) ∧ Binds K fd ["_law_memory_here"] [] := by
  obtain ⟨fd, F⟩ := Z.f__law_on
  refine ⟨fd, ?_, F.bindsN fun _ _ _ _ _ _ us hl => match us, hl with | [_], _ => rfl⟩
  exact fnI_of F sc__law_on Z.hK (fun cdv A outer s0 H E hcd hr => d__law_on Z  hr)
abbrev st__law_all : Stmt := top 24
def N__law_all : List Str := ["_law_span", "_law_found", "_law_turn", "_law_memory_here"]
theorem sc__law_all : FnScope N__law_all ["_law_span"] (defScope st__law_all) := ⟨rfl, rfl, rfl, by decide +kernel, rfl, by decide +kernel, by decide +kernel⟩
theorem d__law_all {P : Program} {w : World} {K : Frag} {mg : Str → Option Value} {base : Heap} {C : Cfg} (Z : Fx K mg base C)  {cdv : Value} {A : Around} {outer : List Env} {s0 : Shared} {H : Hp} {E : XK} (hr : Room 1 (A.deeper (envOfC "_law_all" (defScope st__law_all) s0.heap.objs.size (He.ga K "_law_all") (cdv)))) :
    PSs (cxOf CX0 P w K mg base N__law_all "_law_all" (defScope st__law_all) (He.ga K "_law_all") (cdv) A outer s0 H E).nox (defBody st__law_all) (tS C s__law_all) :=
  (css_cons (cs_name (fun q => ps_set (i := 1) sc__law_all.nd rfl (by first | exact Or.inl rfl | exact Or.inr rfl) q) (ce_lst (ca_cons (ce_str (by rfl)) ca_nil)))
    (css_cons (cs_for PassesOwn.never rfl (ci_range1 (by rfl) Z.g_range (ca_cons (ce_var (pv 0)) ca_nil)) (cg_name (pg_name (i := 2) sc__law_all.nd rfl (by first | exact Or.inl rfl | exact Or.inr rfl))) (css_one (cs_name (fun q => ps_set (i := 1) sc__law_all.nd rfl (by first | exact Or.inl rfl | exact Or.inr rfl) q) (cf_op (cf_bin op_cat addLF_ok addLF_two (cf_lcE (cf_lc (own := [("_law_memory_here", 3)]) rfl sc__law_all.nd (ci_any Z.hK (ce_var (pv 1))) (blkE (N2 := N__law_all) (sc2 := defScope st__law_all) rfl rfl ⟨rfl, by decide +kernel, by decide +kernel, by decide +kernel, by decide +kernel⟩) (fun _ _ _ _ _ => (cg_name (pg_name (i := 3) sc__law_all.nd rfl (by first | exact Or.inl rfl | exact Or.inr rfl)))) (fun _ _ _ _ _ => cts_nil) (fun _ _ _ _ _ => (ce_bin op_addA (addF_ok Z.hK) addF_two (ce_var (pv 3)) (ce_str (by rfl)))) (by decide))) (cf_lcE (cf_lc (own := [("_law_memory_here", 3)]) rfl sc__law_all.nd (ci_any Z.hK (ce_var (pv 1))) (blkE (N2 := N__law_all) (sc2 := defScope st__law_all) rfl rfl ⟨rfl, by decide +kernel, by decide +kernel, by decide +kernel, by decide +kernel⟩) (fun _ _ _ _ _ => (cg_name (pg_name (i := 3) sc__law_all.nd rfl (by first | exact Or.inl rfl | exact Or.inr rfl)))) (fun _ _ _ _ _ => cts_nil) (fun _ _ _ _ _ => (ce_bin op_addA (addF_ok Z.hK) addF_two (ce_var (pv 3)) (ce_str (by rfl)))) (by decide))))))))
    (css_one (cs_ret (cf_op (cf_callBG (cr_sortedA rfl (hu100 hr)) (sortA_ok Z.hK) (by rfl) Z.g_sorted (by decide +kernel) (ca_cons (ce_var (pv 1)) ca_nil)))))))
theorem c__law_all {P : Program} {w : World} {K : Frag} {mg : Str → Option Value} {base : Heap} {C : Cfg} (Z : Fx K mg base C) : ∃ fd, FnOk P w K mg base CX0 2 (He.ga K "_law_all") fd ["_law_span"] (spI C 1 φ__law_all) ∧ Binds K fd ["_law_span"] [] := by
  obtain ⟨fd, F⟩ := Z.f__law_all
  refine ⟨fd, ?_, F.bindsN fun _ _ _ _ _ _ us hl => match us, hl with | [_], _ => rfl⟩
  exact fnI_of F sc__law_all Z.hK (fun cdv A outer s0 H E hcd hr => d__law_all Z  hr)
abbrev st_law : Stmt := top 28
def N_law : List Str := ["_law_script", "_law_row", "_law_span", "_law_one", "_law_other", "_law_table", "_law_lower", "_law_upper", "_law_low", "_law_high", "_law_both", "_law_turn", "_law_k", "_law_memory_here", "_law_relay"]
theorem sc_law : FnScope N_law ["_law_script"] (defScope st_law) := ⟨rfl, rfl, rfl, by decide +kernel, rfl, by decide +kernel, by decide +kernel⟩
theorem d_law {P : Program} {w : World} {K : Frag} {mg : Str → Option Value} {base : Heap} {C : Cfg} (Z : Fx K mg base C) {fd__law_taken : FuncData} (F__law_taken : FnOk P w K mg base CX0 2 (He.ga K "_law_taken") fd__law_taken ["_law_row", "_law_many"] (spO C 2 φ__law_taken)) (B__law_taken : Binds K fd__law_taken ["_law_row", "_law_many"] []) {fd__law_alike : FuncData} (F__law_alike : FnOk P w K mg base CX0 8 (He.ga K "_law_alike") fd__law_alike ["_law_found", "_law_due"] (spI C 2 (φ__law_alike 6))) (B__law_alike : Binds K fd__law_alike ["_law_found", "_law_due"] []) {fd_meet : FuncData} (F_meet : FnOk P w K mg base CX0 5 (He.ga K "meet") fd_meet ["one", "other"] (spI C 2 φ_meet)) (B_meet : Binds K fd_meet ["one", "other"] []) {fd_join : FuncData} (F_join : FnOk P w K mg base CX0 5 (He.ga K "join") fd_join ["one", "other"] (spI C 2 φ_join)) (B_join : Binds K fd_join ["one", "other"] []) {fd_is_below : FuncData} (F_is_below : FnOk P w K mg base CX0 5 (He.ga K "is_below") fd_is_below ["one", "other"] (spI C 2 φ_is_below)) (B_is_below : Binds K fd_is_below ["one", "other"] []) {fd_rank : FuncData} (F_rank : FnOk P w K mg base CX0 4 (He.ga K "rank") fd_rank ["memory"] (spI C 1 φ_rank)) (B_rank : Binds K fd_rank ["memory"] []) {fd__law_pick : FuncData} (F__law_pick : FnOk P w K mg base CX0 3 (He.ga K "_law_pick") fd__law_pick ["_law_row", "_law_things"] (spO C 2 φ__law_pick)) (B__law_pick : Binds K fd__law_pick ["_law_row", "_law_things"] []) {fd__law_on : FuncData} (F__law_on : FnOk P w K mg base CX0 2 (He.ga K "_law_on") fd__law_on ["_law_memory_here"] (spI C 1 φ__law_on)) (B__law_on : Binds K fd__law_on ["_law_memory_here"] []) {fd__law_all : FuncData} (F__law_all : FnOk P w K mg base CX0 2 (He.ga K "_law_all") fd__law_all ["_law_span"] (spI C 1 φ__law_all)) (B__law_all : Binds K fd__law_all ["_law_span"] []) {cdv : Value} {A : Around} {outer : List Env} {s0 : Shared} {H : Hp} {E : XK} (hr : Room 8 (A.deeper (envOfC "law" (defScope st_law) s0.heap.objs.size (He.ga K "law") (cdv)))) :
    PSs (cxOf CX0 P w K mg base N_law "law" (defScope st_law) (He.ga K "law") (cdv) A outer s0 H E).nox (defBody st_law) (tS C s_law) :=
  (css_cons (cs_nameO (fun q => ps_set (i := 1) sc_law.nd rfl (by first | exact Or.inl rfl | exact Or.inr rfl) q) (cf_lst (ca_cons (ce_var (pv 0)) (ca_cons ce_int (ca_cons ce_int (ca_cons ce_int ca_nil))))))
    (css_cons (cs_name (fun q => ps_set (i := 2) sc_law.nd rfl (by first | exact Or.inl rfl | exact Or.inr rfl) q) (ce_bin op_addA (addF_ok Z.hK) addF_two ce_int (ce_callO (F__law_taken.mono (by decide)) hr (by rfl) Z.m__law_taken Z.k__law_taken B__law_taken (pv 1) (ca_cons ce_int ca_nil) rfl)))
    (css_cons (cs_asg (cf_lcE (cf_lc (own := [("_law_turn", 11)]) rfl sc_law.nd (ci_range1 (by rfl) Z.g_range (ca_cons ce_int ca_nil)) (blkE (N2 := N_law) (sc2 := defScope st_law) rfl rfl ⟨rfl, by decide +kernel, by decide +kernel, by decide +kernel, by decide +kernel⟩) (fun _ _ _ _ _ => (cg_name (pg_name (i := 11) sc_law.nd rfl (by first | exact Or.inl rfl | exact Or.inr rfl)))) (fun _ _ _ _ _ => cts_nil) (fun _ _ _ _ _ => (ce_strm (joinF_ok Z.hK) joinF_str (fun q qa => pe_bm PySem.F.plainAttrs_str PySem.F.slot_str_join PySem.F.type_str_join mt_join q qa) (ce_str (by rfl)) (ca_cons (cf_lcE (cf_lc (own := [("_law_k", 12)]) rfl sc_law.nd (ci_range1 (by rfl) Z.g_range (ca_cons (ce_var (pv 2)) ca_nil)) (blkN (N2 := N_law) rfl ⟨rfl, by decide +kernel, by decide +kernel, by decide +kernel, by decide +kernel⟩) (fun _ _ _ _ _ => (cg_name (pg_name (i := 12) sc_law.nd rfl (by first | exact Or.inl rfl | exact Or.inr rfl)))) (fun _ _ _ _ _ => cts_nil) (fun _ _ _ _ _ => (ce_callO (F__law_pick.mono (by decide)) hr (by rfl) Z.m__law_pick Z.k__law_pick B__law_pick (pv 1) (ca_cons (ce_str (by rfl)) ca_nil) rfl)) (by decide))) ca_nil))) (by decide))) (cg_tup rfl Z.hK (cgs_cons (cg_name (pg_name (i := 3) sc_law.nd rfl (by first | exact Or.inl rfl | exact Or.inr rfl))) (cgs_cons (cg_name (pg_name (i := 4) sc_law.nd rfl (by first | exact Or.inl rfl | exact Or.inr rfl))) cgs_nil)) rfl))
    (css_cons (cs_name (fun q => ps_set (i := 5) sc_law.nd rfl (by first | exact Or.inl rfl | exact Or.inr rfl) q) (cf_op (cf_callTy (call_dictA rfl) (dictF_ok Z.hK) (by rfl) Z.g_dict (by decide +kernel) (ca_cons (cf_lcE (cf_lc (own := [("_law_memory_here", 13)]) rfl sc_law.nd (ci_any Z.hK (ce_call (F__law_all.mono (by decide)) hr (by rfl) Z.m__law_all Z.k__law_all B__law_all (ca_cons (ce_var (pv 2)) ca_nil) rfl)) (blkE (N2 := N_law) (sc2 := defScope st_law) rfl rfl ⟨rfl, by decide +kernel, by decide +kernel, by decide +kernel, by decide +kernel⟩) (fun _ _ _ _ _ => (cg_name (pg_name (i := 13) sc_law.nd rfl (by first | exact Or.inl rfl | exact Or.inr rfl)))) (fun _ _ _ _ _ => cts_nil) (fun _ _ _ _ _ => (ce_tup (ca_cons (ce_var (pv 13)) (ca_cons (ce_call (F__law_on.mono (by decide)) hr (by rfl) Z.m__law_on Z.k__law_on B__law_on (ca_cons (ce_var (pv 13)) ca_nil) rfl) ca_nil)))) (by decide))) ca_nil))))
    (css_cons (cs_if (ct_notF (ct_truth (ce_call (F__law_alike.mono (by decide)) hr (by rfl) Z.m__law_alike Z.k__law_alike B__law_alike (ca_cons (ce_call (F_is_below.mono (by decide)) hr (by rfl) Z.m_is_below Z.k_is_below B_is_below (ca_cons (ce_var (pv 3)) (ca_cons (ce_var (pv 4)) ca_nil)) rfl) (ca_cons (ce_cmp (op_eqA hr.units) (eqF_ok Z.hK) eqF_two (cf_lcE (cf_lc (own := [("_law_relay", 14)]) rfl sc_law.nd (ci_any Z.hK (ce_ix (ix_A (hu1 hr)) (ixA_ok Z.hK) ixA_two (ce_var (pv 5)) (ce_var (pv 3)) (fun _ _ => rfl))) (blkE (N2 := N_law) (sc2 := defScope st_law) rfl rfl ⟨rfl, by decide +kernel, by decide +kernel, by decide +kernel, by decide +kernel⟩) (fun _ _ _ _ _ => (cg_name (pg_name (i := 14) sc_law.nd rfl (by first | exact Or.inl rfl | exact Or.inr rfl)))) (fun _ _ _ _ _ => (cts_one (ct_cmp (op_notInB (hu65 hr)) (memA_ok Z.hK) memA_two memA_boo (ce_var (pv 14)) (ce_ix (ix_A (hu1 hr)) (ixA_ok Z.hK) ixA_two (ce_var (pv 5)) (ce_var (pv 4)) (fun _ _ => rfl)) (by rfl)))) (fun _ _ _ _ _ => (ce_var (pv 14))) (by decide))) (ce_lst ca_nil) (by rfl)) ca_nil)) rfl) Z.hK (by intro _; rfl))) (css_one (cs_ret ce_bl)) css_nil)
    (css_cons (cs_if (ct_notF (ct_truth (ce_call (F__law_alike.mono (by decide)) hr (by rfl) Z.m__law_alike Z.k__law_alike B__law_alike (ca_cons (ce_call (F_rank.mono (by decide)) hr (by rfl) Z.m_rank Z.k_rank B_rank (ca_cons (ce_var (pv 3)) ca_nil) rfl) (ca_cons (ce_callB call_lenA (lenA_ok Z.hK) (by rfl) Z.g_len (by decide +kernel) (ca_cons (ce_ix (ix_A (hu1 hr)) (ixA_ok Z.hK) ixA_two (ce_var (pv 5)) (ce_var (pv 3)) (fun _ _ => rfl)) ca_nil)) ca_nil)) rfl) Z.hK (by intro _; rfl))) (css_one (cs_ret ce_bl)) css_nil)
    (css_cons (cs_setLcK (own := [("_law_memory_here", 13)]) rfl sc_law.nd rfl rfl (by rfl) (pv 5) (blkE (N2 := N_law) (sc2 := defScope st_law) rfl rfl ⟨rfl, by decide +kernel, by decide +kernel, by decide +kernel, by decide +kernel⟩) (fun _ _ _ _ _ => (cg_name (pg_name (i := 13) sc_law.nd rfl (by first | exact Or.inl rfl | exact Or.inr rfl)))) (fun _ _ _ _ _ => (cts_one (ct_cmp (op_eqA hr.units) (eqF_ok Z.hK) eqF_two eqF_boo (cf_lcE (cf_lc (own := [("_law_relay", 14)]) rfl sc_law.nd (ci_any Z.hK (ce_ix (ix_A (hu1 hr)) (ixA_ok Z.hK) ixA_two (ce_var (pv 5)) (ce_var (pv 13)) (fun _ _ => rfl))) (blkN (N2 := N_law) rfl ⟨rfl, by decide +kernel, by decide +kernel, by decide +kernel, by decide +kernel⟩) (fun _ _ _ _ _ => (cg_name (pg_name (i := 14) sc_law.nd rfl (by first | exact Or.inl rfl | exact Or.inr rfl)))) (fun _ _ _ _ _ => (cts_one (cw_or (ct_cmp (op_notInB (hu65 hr)) (memA_ok Z.hK) memA_two memA_boo (ce_var (pv 14)) (ce_ix (ix_A (hu1 hr)) (ixA_ok Z.hK) ixA_two (ce_var (pv 5)) (ce_var (pv 3)) (fun _ _ => rfl)) (by rfl)) (cw_or1 (ct_cmp (op_notInB (hu65 hr)) (memA_ok Z.hK) memA_two memA_boo (ce_var (pv 14)) (ce_ix (ix_A (hu1 hr)) (ixA_ok Z.hK) ixA_two (ce_var (pv 5)) (ce_var (pv 4)) (fun _ _ => rfl)) (by rfl)))).pt)) (fun _ _ _ _ _ => (ce_var (pv 14))) (by decide))) (ce_lst ca_nil) (by rfl)))) (fun _ _ _ _ _ => (ce_var (pv 13))) (by decide))
    (css_cons (cs_setLcK (own := [("_law_memory_here", 13)]) rfl sc_law.nd rfl rfl (by rfl) (pv 5) (blkE (N2 := N_law) (sc2 := defScope st_law) rfl rfl ⟨rfl, by decide +kernel, by decide +kernel, by decide +kernel, by decide +kernel⟩) (fun _ _ _ _ _ => (cg_name (pg_name (i := 13) sc_law.nd rfl (by first | exact Or.inl rfl | exact Or.inr rfl)))) (fun _ _ _ _ _ => (cts_one (ct_cmp (op_eqA hr.units) (eqF_ok Z.hK) eqF_two eqF_boo (cf_lcE (cf_lc (own := [("_law_relay", 14)]) rfl sc_law.nd (ci_any Z.hK (ce_bin op_addA (addF_ok Z.hK) addF_two (ce_ix (ix_A (hu1 hr)) (ixA_ok Z.hK) ixA_two (ce_var (pv 5)) (ce_var (pv 3)) (fun _ _ => rfl)) (ce_ix (ix_A (hu1 hr)) (ixA_ok Z.hK) ixA_two (ce_var (pv 5)) (ce_var (pv 4)) (fun _ _ => rfl)))) (blkN (N2 := N_law) rfl ⟨rfl, by decide +kernel, by decide +kernel, by decide +kernel, by decide +kernel⟩) (fun _ _ _ _ _ => (cg_name (pg_name (i := 14) sc_law.nd rfl (by first | exact Or.inl rfl | exact Or.inr rfl)))) (fun _ _ _ _ _ => (cts_one (ct_cmp (op_notInB (hu65 hr)) (memA_ok Z.hK) memA_two memA_boo (ce_var (pv 14)) (ce_ix (ix_A (hu1 hr)) (ixA_ok Z.hK) ixA_two (ce_var (pv 5)) (ce_var (pv 13)) (fun _ _ => rfl)) (by rfl)))) (fun _ _ _ _ _ => (ce_var (pv 14))) (by decide))) (ce_lst ca_nil) (by rfl)))) (fun _ _ _ _ _ => (ce_var (pv 13))) (by decide))
    (css_cons (cs_asg (ce_tup (ca_cons (ce_call (F_meet.mono (by decide)) hr (by rfl) Z.m_meet Z.k_meet B_meet (ca_cons (ce_var (pv 3)) (ca_cons (ce_var (pv 4)) ca_nil)) rfl) (ca_cons (ce_call (F_join.mono (by decide)) hr (by rfl) Z.m_join Z.k_join B_join (ca_cons (ce_var (pv 3)) (ca_cons (ce_var (pv 4)) ca_nil)) rfl) ca_nil))) (cg_tup rfl Z.hK (cgs_cons (cg_name (pg_name (i := 8) sc_law.nd rfl (by first | exact Or.inl rfl | exact Or.inr rfl))) (cgs_cons (cg_name (pg_name (i := 9) sc_law.nd rfl (by first | exact Or.inl rfl | exact Or.inr rfl))) cgs_nil)) rfl))
    (css_cons (cs_if (cw_or (ct_cmp (op_notInB (hu65 hr)) (memA_ok Z.hK) memA_two memA_boo (ce_var (pv 8)) (ce_var (pv 6)) (by rfl)) (cw_or1 (ct_cmp (op_notInB (hu65 hr)) (memA_ok Z.hK) memA_two memA_boo (ce_var (pv 9)) (ce_var (pv 7)) (by rfl)))).pt (css_one (cs_ret ce_bl)) css_nil)
    (css_cons (cs_if (ct_cmp (op_neA hr.units) (neF_ok Z.hK) neF_two neF_boo (cf_lcE (cf_lc (own := [("_law_memory_here", 13)]) rfl sc_law.nd (ci_any Z.hK (ce_var (pv 6))) (blkE (N2 := N_law) (sc2 := defScope st_law) rfl rfl ⟨rfl, by decide +kernel, by decide +kernel, by decide +kernel, by decide +kernel⟩) (fun _ _ _ _ _ => (cg_name (pg_name (i := 13) sc_law.nd rfl (by first | exact Or.inl rfl | exact Or.inr rfl)))) (fun _ _ _ _ _ => (cts_one (ct_cmp (op_neA hr.units) (neF_ok Z.hK) neF_two neF_boo (cf_lcE (cf_lc (own := [("_law_relay", 14)]) rfl sc_law.nd (ci_any Z.hK (ce_ix (ix_A (hu1 hr)) (ixA_ok Z.hK) ixA_two (ce_var (pv 5)) (ce_var (pv 13)) (fun _ _ => rfl))) (blkN (N2 := N_law) rfl ⟨rfl, by decide +kernel, by decide +kernel, by decide +kernel, by decide +kernel⟩) (fun _ _ _ _ _ => (cg_name (pg_name (i := 14) sc_law.nd rfl (by first | exact Or.inl rfl | exact Or.inr rfl)))) (fun _ _ _ _ _ => (cts_one (ct_cmp (op_notInB (hu65 hr)) (memA_ok Z.hK) memA_two memA_boo (ce_var (pv 14)) (ce_ix (ix_A (hu1 hr)) (ixA_ok Z.hK) ixA_two (ce_var (pv 5)) (ce_var (pv 8)) (fun _ _ => rfl)) (by rfl)))) (fun _ _ _ _ _ => (ce_var (pv 14))) (by decide))) (ce_lst ca_nil) (by rfl)))) (fun _ _ _ _ _ => (ce_var (pv 13))) (by decide))) (ce_lst ca_nil) (by rfl)) (css_one (cs_ret ce_bl)) css_nil)
    (css_cons (cs_if (ct_cmp (op_neA hr.units) (neF_ok Z.hK) neF_two neF_boo (cf_lcE (cf_lc (own := [("_law_memory_here", 13)]) rfl sc_law.nd (ci_any Z.hK (ce_var (pv 7))) (blkE (N2 := N_law) (sc2 := defScope st_law) rfl rfl ⟨rfl, by decide +kernel, by decide +kernel, by decide +kernel, by decide +kernel⟩) (fun _ _ _ _ _ => (cg_name (pg_name (i := 13) sc_law.nd rfl (by first | exact Or.inl rfl | exact Or.inr rfl)))) (fun _ _ _ _ _ => (cts_one (ct_cmp (op_neA hr.units) (neF_ok Z.hK) neF_two neF_boo (cf_lcE (cf_lc (own := [("_law_relay", 14)]) rfl sc_law.nd (ci_any Z.hK (ce_ix (ix_A (hu1 hr)) (ixA_ok Z.hK) ixA_two (ce_var (pv 5)) (ce_var (pv 9)) (fun _ _ => rfl))) (blkN (N2 := N_law) rfl ⟨rfl, by decide +kernel, by decide +kernel, by decide +kernel, by decide +kernel⟩) (fun _ _ _ _ _ => (cg_name (pg_name (i := 14) sc_law.nd rfl (by first | exact Or.inl rfl | exact Or.inr rfl)))) (fun _ _ _ _ _ => (cts_one (ct_cmp (op_notInB (hu65 hr)) (memA_ok Z.hK) memA_two memA_boo (ce_var (pv 14)) (ce_ix (ix_A (hu1 hr)) (ixA_ok Z.hK) ixA_two (ce_var (pv 5)) (ce_var (pv 13)) (fun _ _ => rfl)) (by rfl)))) (fun _ _ _ _ _ => (ce_var (pv 14))) (by decide))) (ce_lst ca_nil) (by rfl)))) (fun _ _ _ _ _ => (ce_var (pv 13))) (by decide))) (ce_lst ca_nil) (by rfl)) (css_one (cs_ret ce_bl)) css_nil)
    (css_cons (cs_setLc (own := [("_law_relay", 14)]) rfl sc_law.nd rfl rfl (by rfl) (ci_any Z.hK (ce_ix (ix_A (hu1 hr)) (ixA_ok Z.hK) ixA_two (ce_var (pv 5)) (ce_var (pv 3)) (fun _ _ => rfl))) (blkE (N2 := N_law) (sc2 := defScope st_law) rfl rfl ⟨rfl, by decide +kernel, by decide +kernel, by decide +kernel, by decide +kernel⟩) (fun _ _ _ _ _ => (cg_name (pg_name (i := 14) sc_law.nd rfl (by first | exact Or.inl rfl | exact Or.inr rfl)))) (fun _ _ _ _ _ => (cts_one (ct_cmp (op_inB (hu65 hr)) (memA_ok Z.hK) memA_two memA_boo (ce_var (pv 14)) (ce_ix (ix_A (hu1 hr)) (ixA_ok Z.hK) ixA_two (ce_var (pv 5)) (ce_var (pv 4)) (fun _ _ => rfl)) (by rfl)))) (fun _ _ _ _ _ => (ce_var (pv 14))) (by decide))
    (css_one (cs_ret (ce_and (ce_cmp (op_eqA hr.units) (eqF_ok Z.hK) eqF_two (cf_op (cf_ss rfl (Nat.lt_of_le_of_lt (Nat.add_le_add_left (by decide : 64 ≤ 100) _) (hu100 hr)) Z.hK (by rfl) Z.g_sorted (by rfl) Z.g_set (ca_cons (ce_bin op_addA (addF_ok Z.hK) addF_two (ce_ix (ix_A (hu1 hr)) (ixA_ok Z.hK) ixA_two (ce_var (pv 5)) (ce_var (pv 3)) (fun _ _ => rfl)) (ce_ix (ix_A (hu1 hr)) (ixA_ok Z.hK) ixA_two (ce_var (pv 5)) (ce_var (pv 4)) (fun _ _ => rfl))) ca_nil))) (ce_ix (ix_A (hu1 hr)) (ixA_ok Z.hK) ixA_two (ce_var (pv 5)) (ce_var (pv 9)) (fun _ _ => rfl)) (by rfl)) (ce_one (ce_cmp (op_eqA hr.units) (eqF_ok Z.hK) eqF_two (ce_var (pv 10)) (ce_ix (ix_A (hu1 hr)) (ixA_ok Z.hK) ixA_two (ce_var (pv 5)) (ce_var (pv 8)) (fun _ _ => rfl)) (by rfl)) pe_one) Z.hK))))))))))))))))
theorem c_law {P : Program} {w : World} {K : Frag} {mg : Str → Option Value} {base : Heap} {C : Cfg} (Z : Fx K mg base C) : ∃ fd, FnOk P w K mg base CX0 9 (He.ga K "law") fd ["_law_script"] (spI C 1 φ_law) ∧ Binds K fd ["_law_script"] [] := by
  obtain ⟨fd, F⟩ := Z.f_law
  obtain ⟨fd__law_taken, F__law_taken, B__law_taken⟩ := c__law_taken (P := P) (w := w) Z
  obtain ⟨fd__law_alike, F__law_alike, B__law_alike⟩ := c__law_alike (P := P) (w := w) Z
  obtain ⟨fd_meet, F_meet, B_meet⟩ := c_meet (P := P) (w := w) Z
  obtain ⟨fd_join, F_join, B_join⟩ := c_join (P := P) (w := w) Z
  obtain ⟨fd_is_below, F_is_below, B_is_below⟩ := c_is_below (P := P) (w := w) Z
  obtain ⟨fd_rank, F_rank, B_rank⟩ := c_rank (P := P) (w := w) Z
  obtain ⟨fd__law_pick, F__law_pick, B__law_pick⟩ := c__law_pick (P := P) (w := w) Z
  obtain ⟨fd__law_on, F__law_on, B__law_on⟩ := c__law_on (P := P) (w := w) Z
  obtain ⟨fd__law_all, F__law_all, B__law_all⟩ := c__law_all (P := P) (w := w) Z
  refine ⟨fd, ?_, F.bindsN fun _ _ _ _ _ _ us hl => match us, hl with | [_], _ => rfl⟩
  exact fnI_of F sc_law Z.hK (fun cdv A outer s0 H E hcd hr => d_law Z F__law_taken B__law_taken F__law_alike B__law_alike F_meet B_meet F_join B_join F_is_below B_is_below F_rank B_rank F__law_pick B__law_pick F__law_on B__law_on F__law_all B__law_all hr)
theorem law_ok {P : Program} {w : World} {K : Frag} {mg : Str → Option Value} {base : Heap} {C : Cfg} (Z : Fx K mg base C) {fd : FuncData} (F : FunD K "law" "law" (defArgs st_law) (defBody st_law) (defScope st_law) [] [] (He.ga K "law") fd) : FnOk P w K mg base CX0 9 (He.ga K "law") fd ["_law_script"] (spI C 1 φ_law) := by
  obtain ⟨fd__law_taken, F__law_taken, B__law_taken⟩ := c__law_taken (P := P) (w := w) Z
  obtain ⟨fd__law_alike, F__law_alike, B__law_alike⟩ := c__law_alike (P := P) (w := w) Z
  obtain ⟨fd_meet, F_meet, B_meet⟩ := c_meet (P := P) (w := w) Z
  obtain ⟨fd_join, F_join, B_join⟩ := c_join (P := P) (w := w) Z
  obtain ⟨fd_is_below, F_is_below, B_is_below⟩ := c_is_below (P := P) (w := w) Z
  obtain ⟨fd_rank, F_rank, B_rank⟩ := c_rank (P := P) (w := w) Z
  obtain ⟨fd__law_pick, F__law_pick, B__law_pick⟩ := c__law_pick (P := P) (w := w) Z
  obtain ⟨fd__law_on, F__law_on, B__law_on⟩ := c__law_on (P := P) (w := w) Z
  obtain ⟨fd__law_all, F__law_all, B__law_all⟩ := c__law_all (P := P) (w := w) Z
  exact fnI_of F sc_law Z.hK (fun cdv A outer s0 H E hcd hr => d_law Z F__law_taken B__law_taken F__law_alike B__law_alike F_meet B_meet F_join B_join F_is_below B_is_below F_rank B_rank F__law_pick B__law_pick F__law_on B__law_on F__law_all B__law_all hr)
end Mi

namespace Mi
open PySem PySem.Spec PyProof.Rows L2 GxR
def fnD (nm : Str) (i : Nat) : He.DefD := ⟨(nm, none), nm, nm, defArgs (top i), defBody (top i), defScope (top i), [], []⟩
def fns : List He.DefD := [fnD "_law_taken" 19, fnD "_law_alike" 21, fnD "is_memory" 6, fnD "need_memory" 7, fnD "need_pair" 9, fnD "from_counts" 13, fnD "counts" 10, fnD "meet" 14, fnD "join" 15, fnD "below" 11, fnD "is_below" 12, fnD "rank_of" 16, fnD "rank" 17, fnD "_law_pick" 20, fnD "_law_on" 27, fnD "_law_all" 24, fnD "law" 28]
def fas : List He.Fa := [.glo "_law_taken", .glo "_law_alike", .glo "is_memory", .glo "need_memory", .glo "need_pair", .glo "from_counts", .glo "counts", .glo "meet", .glo "join", .glo "below", .glo "is_below", .glo "rank_of", .glo "rank", .glo "_law_pick", .glo "_law_on", .glo "_law_all", .glo "law", .free "all", .free "bool", .free "dict", .free "int", .free "isinstance", .free "len", .free "list", .free "max", .free "min", .free "range", .free "set", .free "sorted", .free "str", .free "sum", .free "tuple", .free "zip", .int "MOST_SPAN" 9]
def tfs : List He.Defn := [("is_memory", none), ("below", none)]
abbrev R : PySem.W.OpenRow := PySem.W.OpenLaw.row PySem.Challenge.rw_relaybanks_k10_whole_order
abbrev hk : PySem.W.Hook := He.hookX 4 fas fns [] tfs (fun _ => true)
def ob (s : PySem.W.SharedT) : He.AlX := He.obsX 4 fas fns [] tfs (fun _ => true) (HandSHeadRun.getT s)
theorem ob_eq (s : PySem.W.SharedT) : ob s = hk.obs s.abs := He.obsX_eq (HandSHeadRun.getT_eq s)
theorem run (w : World) : HandSHeadRun.RunEq R (PySem.W.view R.prog [28]) hk ob 4000 (("RelayError" : Str) :: ("BadMemory" : Str) :: ("BadPair" : Str) :: ("MOST_SPAN" : Str) :: ("is_memory" : Str) :: ("need_memory" : Str) :: ("need_pair" : Str) :: ("counts" : Str) :: ("below" : Str) :: ("is_below" : Str) :: ("from_counts" : Str) :: ("meet" : Str) :: ("join" : Str) :: ("rank_of" : Str) :: ("rank" : Str) :: ("_law_taken" : Str) :: ("_law_pick" : Str) :: ("_law_alike" : Str) :: ("_law_step" : Str) :: ("_law_behind" : Str) :: ("_law_all" : Str) :: ("_law_memory" : Str) :: ("_law_steps" : Str) :: ("_law_on" : Str) :: []) w := by
  intro os
  kernel_rfl
section
variable {w : World} {K : Frag} {h : Heap} {mg : Str → Option Value}
abbrev cfg (K : Frag) : Cfg := ⟨K, (tfs.map (He.cT K)).map (·.2)⟩
theorem fx_of {base : Heap} (X : K.In h) (G : h.Ns mainGlobals mg) (c : He.SaysX fas fns [] tfs (fun _ => true) w h K) (hT : ∀ p ∈ tfs.map (He.cT K), TabB base mg p.1 p.2) : Fx K mg base (cfg K) :=
  ⟨rfl,
    He.free_ok X G (c.t.d.fact 17 rfl),
    He.free_ok X G (c.t.d.fact 18 rfl),
    He.free_ok X G (c.t.d.fact 19 rfl),
    He.free_ok X G (c.t.d.fact 20 rfl),
    He.free_ok X G (c.t.d.fact 21 rfl),
    He.free_ok X G (c.t.d.fact 22 rfl),
    He.free_ok X G (c.t.d.fact 23 rfl),
    He.free_ok X G (c.t.d.fact 24 rfl),
    He.free_ok X G (c.t.d.fact 25 rfl),
    He.free_ok X G (c.t.d.fact 26 rfl),
    He.free_ok X G (c.t.d.fact 27 rfl),
    He.free_ok X G (c.t.d.fact 28 rfl),
    He.free_ok X G (c.t.d.fact 29 rfl),
    He.free_ok X G (c.t.d.fact 30 rfl),
    He.free_ok X G (c.t.d.fact 31 rfl),
    He.free_ok X G (c.t.d.fact 32 rfl),
    He.int_ok X G (c.t.d.fact 33 rfl),
    He.glo_ok X G (c.t.d.fact 0 rfl),
    (let ⟨_, F⟩ := c.t.d.def_ 0 (d := fnD "_law_taken" 19) rfl; F.kp),
    c.t.d.def_ 0 (d := fnD "_law_taken" 19) rfl,
    He.glo_ok X G (c.t.d.fact 1 rfl),
    (let ⟨_, F⟩ := c.t.d.def_ 1 (d := fnD "_law_alike" 21) rfl; F.kp),
    c.t.d.def_ 1 (d := fnD "_law_alike" 21) rfl,
    He.glo_ok X G (c.t.d.fact 2 rfl),
    (let ⟨_, F⟩ := c.t.d.def_ 2 (d := fnD "is_memory" 6) rfl; F.kp),
    c.t.d.def_ 2 (d := fnD "is_memory" 6) rfl,
    hT _ (List.mem_of_getElem? (i := 0) rfl),
    List.mem_of_getElem? (i := 0) rfl,
    (let ⟨_, F⟩ := c.t.d.def_ 2 (d := fnD "is_memory" 6) rfl; tc_of F),
    He.glo_ok X G (c.t.d.fact 3 rfl),
    (let ⟨_, F⟩ := c.t.d.def_ 3 (d := fnD "need_memory" 7) rfl; F.kp),
    c.t.d.def_ 3 (d := fnD "need_memory" 7) rfl,
    He.glo_ok X G (c.t.d.fact 4 rfl),
    (let ⟨_, F⟩ := c.t.d.def_ 4 (d := fnD "need_pair" 9) rfl; F.kp),
    c.t.d.def_ 4 (d := fnD "need_pair" 9) rfl,
    He.glo_ok X G (c.t.d.fact 5 rfl),
    (let ⟨_, F⟩ := c.t.d.def_ 5 (d := fnD "from_counts" 13) rfl; F.kp),
    c.t.d.def_ 5 (d := fnD "from_counts" 13) rfl,
    He.glo_ok X G (c.t.d.fact 6 rfl),
    (let ⟨_, F⟩ := c.t.d.def_ 6 (d := fnD "counts" 10) rfl; F.kp),
    c.t.d.def_ 6 (d := fnD "counts" 10) rfl,
    He.glo_ok X G (c.t.d.fact 7 rfl),
    (let ⟨_, F⟩ := c.t.d.def_ 7 (d := fnD "meet" 14) rfl; F.kp),
    c.t.d.def_ 7 (d := fnD "meet" 14) rfl,
    He.glo_ok X G (c.t.d.fact 8 rfl),
    (let ⟨_, F⟩ := c.t.d.def_ 8 (d := fnD "join" 15) rfl; F.kp),
    c.t.d.def_ 8 (d := fnD "join" 15) rfl,
    He.glo_ok X G (c.t.d.fact 9 rfl),
    (let ⟨_, F⟩ := c.t.d.def_ 9 (d := fnD "below" 11) rfl; F.kp),
    c.t.d.def_ 9 (d := fnD "below" 11) rfl,
    hT _ (List.mem_of_getElem? (i := 1) rfl),
    List.mem_of_getElem? (i := 1) rfl,
    (let ⟨_, F⟩ := c.t.d.def_ 9 (d := fnD "below" 11) rfl; tc_of F),
    He.glo_ok X G (c.t.d.fact 10 rfl),
    (let ⟨_, F⟩ := c.t.d.def_ 10 (d := fnD "is_below" 12) rfl; F.kp),
    c.t.d.def_ 10 (d := fnD "is_below" 12) rfl,
    He.glo_ok X G (c.t.d.fact 11 rfl),
    (let ⟨_, F⟩ := c.t.d.def_ 11 (d := fnD "rank_of" 16) rfl; F.kp),
    c.t.d.def_ 11 (d := fnD "rank_of" 16) rfl,
    He.glo_ok X G (c.t.d.fact 12 rfl),
    (let ⟨_, F⟩ := c.t.d.def_ 12 (d := fnD "rank" 17) rfl; F.kp),
    c.t.d.def_ 12 (d := fnD "rank" 17) rfl,
    He.glo_ok X G (c.t.d.fact 13 rfl),
    (let ⟨_, F⟩ := c.t.d.def_ 13 (d := fnD "_law_pick" 20) rfl; F.kp),
    c.t.d.def_ 13 (d := fnD "_law_pick" 20) rfl,
    He.glo_ok X G (c.t.d.fact 14 rfl),
    (let ⟨_, F⟩ := c.t.d.def_ 14 (d := fnD "_law_on" 27) rfl; F.kp),
    c.t.d.def_ 14 (d := fnD "_law_on" 27) rfl,
    He.glo_ok X G (c.t.d.fact 15 rfl),
    (let ⟨_, F⟩ := c.t.d.def_ 15 (d := fnD "_law_all" 24) rfl; F.kp),
    c.t.d.def_ 15 (d := fnD "_law_all" 24) rfl,
    He.glo_ok X G (c.t.d.fact 16 rfl),
    (let ⟨_, F⟩ := c.t.d.def_ 16 (d := fnD "law" 28) rfl; F.kp),
    c.t.d.def_ 16 (d := fnD "law" 28) rfl⟩
end
end Mi
open PySem PySem.W PySem.Calls PyProof.Rows
theorem PySem.Challenge.cw_relaybanks_k10_whole_order_holds : PySem.Challenge.rw_relaybanks_k10_whole_order.Holds := by
  w_on; o_law
  refine HandSHeadRun.head_any (r := OpenLaw.row PySem.Challenge.rw_relaybanks_k10_whole_order) (q := view (OpenLaw.row PySem.Challenge.rw_relaybanks_k10_whole_order).prog [28]) (H := Mi.hk) (ob := Mi.ob) (M := 4000) (loose := (("RelayError" : Str) :: ("BadMemory" : Str) :: ("BadPair" : Str) :: ("MOST_SPAN" : Str) :: ("is_memory" : Str) :: ("need_memory" : Str) :: ("need_pair" : Str) :: ("counts" : Str) :: ("below" : Str) :: ("is_below" : Str) :: ("from_counts" : Str) :: ("meet" : Str) :: ("join" : Str) :: ("rank_of" : Str) :: ("rank" : Str) :: ("_law_taken" : Str) :: ("_law_pick" : Str) :: ("_law_alike" : Str) :: ("_law_step" : Str) :: ("_law_behind" : Str) :: ("_law_all" : Str) :: ("_law_memory" : Str) :: ("_law_steps" : Str) :: ("_law_on" : Str) :: [])) (d := HandSHeadRun.topDef (OpenLaw.row PySem.Challenge.rw_relaybanks_k10_whole_order).prog 28) (kwd := []) Mi.ob_eq
    (by kernel_rfl) (fun s => by kernel_rfl) Mi.run (by kernel_rfl) (by kernel_rfl) (by kernel_rfl) (by rfl) (by first | assumption | decide +kernel) (by decide +kernel) ⟨rfl, rfl, rfl, rfl, rfl, by decide +kernel⟩ ?hw ?hc
  case hw => w_witness2
  case hc =>
    refine LamX.walk_ofTsE (l := PySem.Challenge.rw_relaybanks_k10_whole_order) (n := 63) (k := 9) (x := "_law_script") (CX := fun _ => L2.CX0) rfl (by decide) (by kernel_rfl) ⟨rfl, by decide, by decide⟩ ?F (fun _ _ _ _ _ z => z)
    intro w mg fa h Y G hmg0
    obtain ⟨K, KX, c⟩ := Y
    have hmg : mg ("law" : PySem.Str) = some (.ref fa) := by
      have e : (HandSHeadRun.topDef (OpenLaw.row PySem.Challenge.rw_relaybanks_k10_whole_order).prog 28).name = ("law" : PySem.Str) := by kernel_rfl
      rw [← e]
      exact hmg0
    obtain ⟨fd, F⟩ := c.t.d.def_ 16 (d := Mi.fnD "law" 28) rfl
    have e := hmg.symm.trans (He.glo_ok KX G (c.t.d.fact 16 (f := .glo "law") rfl))
    have e2 : fa = He.ga K "law" := by
      cases e
      rfl
    subst e2
    refine ⟨K, KX, Mi.law_at c KX F (fun s v => F.bindsA (ps := ["_law_script"]) (fun _ _ _ _ _ _ us hl => match us, hl with | [_], _ => rfl) s [v] rfl) (fun base hT => (Mi.fx_of (base := base) KX G c hT)) (fun base Z => Mi.law_ok Z F) Mi.law_true⟩

