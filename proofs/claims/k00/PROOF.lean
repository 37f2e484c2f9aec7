import PyProof.Rows.All
import Wide.All
import OpenK.AllK
import Wide.FinOn
import HandS.ForMost
import HandS.AnyAll
import HandS.IsInst
import HandS.StrMore
import HandS.Flow
import HandS.Defaults
import HandS.EndTab
import HandS.HeadHook4
import HandS.HeadWalk
import HandS.Head2
import HandS.Deep
import PySem.Challenge.RW_relaybanks_k00_whole_memories
set_option Elab.async false
set_option linter.all false
set_option maxRecDepth 100000
set_option maxHeartbeats 4000000
/-! Plain data, what represents it, and a small language over it. -/
namespace Mi
open PySem PySem.Spec PyProof.Rows L2 GxR
abbrev Frag := PySem.W.Frag
abbrev St := L2.St
inductive D where
  | non
  | bl (b : Bool)
  | int (i : Int)
  | str (s : List Nat)
  | tup (l : List D)
  | lst (l : List D)
  | dic (ks vs : List D)
  | scr (ns : List Int)
deriving Inhabited
def keyD : Key → D
  | .inl i => .int i
  | .inr x => .str x.cps.toList
mutual
inductive Rep (K : Frag) (G : Hp) : V → D → Prop
  | non : Rep K G .non .non
  | bl (b : Bool) : Rep K G (.bl b) (.bl b)
  | int (i : Int) : Rep K G (.int i) (.int i)
  | str (s : List Nat) : Rep K G (.str ⟨s.toArray⟩) (.str s)
  | tup {a : Addr} {xs : List V} {ds : List D} : G a = some (.tup xs) → RepL K G xs ds → Rep K G (.ref a) (.tup ds)
  | lst {a : Addr} {xs : List V} {ds : List D} : G a = some (.lst xs) → RepL K G xs ds → Rep K G (.ref a) (.lst ds)
  | scr {a : Addr} {ns : List Int} : SqL K G a (ns.map V.int) → Rep K G (.ref a) (.scr ns)
  | dK {a : Addr} {kvs : List (Key × V)} {ks vs : List D} : G a = some (.dK kvs) → ks = kvs.map (fun q => keyD q.1) → RepL K G (kvs.map (·.2)) vs → Rep K G (.ref a) (.dic ks vs)
  | dT {a : Addr} {kvs : List (List Key × V)} {ks vs : List D} : G a = some (.dT kvs) → ks = kvs.map (fun q => D.tup (q.1.map keyD)) → RepL K G (kvs.map (·.2)) vs → Rep K G (.ref a) (.dic ks vs)
inductive RepL (K : Frag) (G : Hp) : List V → List D → Prop
  | nil : RepL K G [] []
  | cons {v : V} {vs : List V} {d : D} {ds : List D} : Rep K G v d → RepL K G vs ds → RepL K G (v :: vs) (d :: ds)
end
inductive RepO (K : Frag) (G : Hp) : HO → D → Prop
  | lst {xs : List V} {ds : List D} : RepL K G xs ds → RepO K G (.lst xs) (.lst ds)
  | dK {kvs : List (Key × V)} {ks vs : List D} : ks = kvs.map (fun q => keyD q.1) → RepL K G (kvs.map (·.2)) vs → RepO K G (.dK kvs) (.dic ks vs)
  | dT {kvs : List (List Key × V)} {ks vs : List D} : ks = kvs.map (fun q => D.tup (q.1.map keyD)) → RepL K G (kvs.map (·.2)) vs → RepO K G (.dT kvs) (.dic ks vs)
section
variable {K : Frag} {G G' H H' : Hp}
theorem _root_.L2.Same.rd {a : Addr} {u : HO} (s : Same G G') (h : Rd G a u) : Rd G' a u := by
  rcases h with h | ⟨o, h⟩
  · exact .inl (s _ _ h)
  · exact .inr ⟨o, s _ _ h⟩
theorem _root_.L2.Same.seqT {a : Addr} {xs : List V} (s : Same G G') (h : SqT K G a xs) : SqT K G' a xs := by
  rcases h with h | h
  · exact .inl (s.rd h)
  · exact .inr h
mutual
theorem Rep.mono (s : Same G G') : ∀ (d : D) (v : V), Rep K G v d → Rep K G' v d
  | .non, _, h => by cases h; exact .non
  | .bl b, _, h => by cases h; exact .bl b
  | .int i, _, h => by cases h; exact .int i
  | .str x, _, h => by cases h; exact .str x
  | .tup ds, _, h => by
    cases h with
    | tup q r => exact .tup (s _ _ q) (RepL.mono s ds _ r)
  | .lst ds, _, h => by
    cases h with
    | lst q r => exact .lst (s _ _ q) (RepL.mono s ds _ r)
  | .scr ns, _, h => by
    cases h with
    | scr q => exact .scr (s.seq q)
  | .dic ks vs, _, h => by
    cases h with
    | dK q e r => exact .dK (s _ _ q) e (RepL.mono s vs _ r)
    | dT q e r => exact .dT (s _ _ q) e (RepL.mono s vs _ r)
theorem RepL.mono (s : Same G G') : ∀ (ds : List D) (vs : List V), RepL K G vs ds → RepL K G' vs ds
  | [], _, h => by cases h; exact .nil
  | d :: ds, _, h => by
    cases h with
    | cons a b => exact .cons (Rep.mono s d _ a) (RepL.mono s ds _ b)
end
theorem RepO.mono (s : Same G G') {o : HO} {d : D} (h : RepO K G o d) : RepO K G' o d := by
  cases h with
  | lst r => exact .lst (r.mono s)
  | dK e r => exact .dK e (r.mono s)
  | dT e r => exact .dT e (r.mono s)
theorem RepL.length : ∀ {vs : List V} {ds : List D}, RepL K G vs ds → vs.length = ds.length
  | _, _, .nil => rfl
  | _, _, .cons _ t => congrArg Nat.succ (RepL.length t)
theorem RepL.append : ∀ {vs ws : List V} {ds es : List D}, RepL K G vs ds → RepL K G ws es → RepL K G (vs ++ ws) (ds ++ es)
  | _, _, _, _, .nil, h => h
  | _, _, _, _, .cons a b, h => .cons a (RepL.append b h)
theorem RepL.get : ∀ {vs : List V} {ds : List D} {i : Nat} {v : V}, RepL K G vs ds → vs[i]? = some v → ∃ d, ds[i]? = some d ∧ Rep K G v d
  | _, _, _, _, .nil, e => by simp at e
  | _, _, 0, _, .cons a _, e => by
    have e' := Option.some.inj (show some _ = some _ from e)
    subst e'
    exact ⟨_, rfl, a⟩
  | _, _, i + 1, v, .cons _ b, e => RepL.get (i := i) b (by simpa using e)
theorem RepL.getD : ∀ {vs : List V} {ds : List D} {i : Nat} {d : D}, RepL K G vs ds → ds[i]? = some d → ∃ v, vs[i]? = some v ∧ Rep K G v d
  | _, _, _, _, .nil, e => by simp at e
  | _, _, 0, _, .cons a _, e => by
    have e' := Option.some.inj (show some _ = some _ from e)
    subst e'
    exact ⟨_, rfl, a⟩
  | _, _, i + 1, v, .cons _ b, e => RepL.getD (i := i) b (by simpa using e)
theorem RepL.take : ∀ {vs : List V} {ds : List D} (n : Nat), RepL K G vs ds → RepL K G (vs.take n) (ds.take n)
  | _, _, 0, _ => .nil
  | _, _, _ + 1, .nil => .nil
  | _, _, n + 1, .cons a b => .cons a (RepL.take n b)
theorem RepL.drop : ∀ {vs : List V} {ds : List D} (n : Nat), RepL K G vs ds → RepL K G (vs.drop n) (ds.drop n)
  | _, _, 0, h => h
  | _, _, _ + 1, .nil => .nil
  | _, _, n + 1, .cons _ b => RepL.drop n b
theorem RepL.set {v : V} {d : D} (r : Rep K G v d) : ∀ {vs : List V} {ds : List D} (i : Nat), RepL K G vs ds → RepL K G (vs.set i v) (ds.set i d)
  | _, _, _, .nil => .nil
  | _, _, 0, .cons _ b => .cons r b
  | _, _, i + 1, .cons a b => .cons a (RepL.set r i b)
theorem RepL.reverse {vs : List V} {ds : List D} (h : RepL K G vs ds) : RepL K G vs.reverse ds.reverse := by
  induction vs generalizing ds with
  | nil => cases h; exact .nil
  | cons v vs ih =>
    cases h with
    | cons a b =>
      rw [List.reverse_cons, List.reverse_cons]
      exact (ih b).append (.cons a .nil)
theorem RepL.ints : ∀ {vs : List V} {ns : List Int}, RepL K G vs (ns.map D.int) → vs = ns.map V.int
  | vs, [], h => by cases h; rfl
  | vs, n :: ns, h => by
    cases h with
    | cons a b =>
      cases a
      rw [RepL.ints b] <;> rfl
theorem RepL.strs : ∀ {vs : List V} {xs : List (List Nat)}, RepL K G vs (xs.map D.str) → vs = (xs.map fun s => (⟨s.toArray⟩ : Str)).map V.str
  | vs, [], h => by cases h; rfl
  | vs, n :: ns, h => by
    cases h with
    | cons a b =>
      cases a
      rw [RepL.strs b] <;> rfl
end

/-! ### the running values -/
inductive B where
  | un
  | im (d : D)
  | ow (d : D)
  | io (d : D)
deriving Inhabited
def B.data : B → Option D
  | .un => none
  | .im d => some d
  | .ow d => some d
  | .io d => some d
def B.isOw : B → Bool
  | .ow _ => true
  | .io _ => true
  | _ => false
abbrev Env' := List B
inductive Rv where
  | pers (d : D)
  | bor (i : Nat)
def Rv.get (e : Env') : Rv → Option D
  | .pers d => some d
  | .bor i => (match e[i]? with
    | some b => (match b.data with
      | some (.lst l) => some (.lst l)
      | some (.dic k v) => some (.dic k v)
      | _ => none)
    | none => none)
def gets (e : Env') : List Rv → Option (List D)
  | [] => some []
  | r :: rs => (match r.get e with
    | some d => (match gets e rs with
      | some ds => some (d :: ds)
      | none => none)
    | none => none)
def Rv.settle (e : Env') : Rv → Option (D × Env')
  | .pers d => some (d, e)
  | .bor i => (match e[i]? with
    | some (.im d) => some (d, e)
    | some (.ow d) => some (d, e.set i (.im d))
    | _ => none)
def settles (e : Env') : List Rv → Option (List D × Env')
  | [] => some ([], e)
  | r :: rs => (match r.settle e with
    | some (d, e1) => (match settles e1 rs with
      | some (ds, e2) => some (d :: ds, e2)
      | none => none)
    | none => none)
/-- a value's truth -/
def truth : D → Option Bool
  | .non => some false
  | .bl b => some b
  | .int i => some (i != 0)
  | .str s => if s.length ≤ 16000000 then some (!s.isEmpty) else none
  | .tup l => some (!l.isEmpty)
  | .lst l => some (!l.isEmpty)
  | .dic _ _ => none
  | .scr _ => none
def D.flat : D → Bool
  | .non => true
  | .bl _ => true
  | .int _ => true
  | .str _ => true
  | _ => false
inductive Tg where
  | nm (i : Nat)
  | tp (l : List Tg)
mutual
def Tg.bind : Tg → D → Env' → Option Env'
  | .nm i, d, e => (match e[i]? with
    | some (.io _) => none
    | some _ => some (e.set i (.im d))
    | none => none)
  | .tp ts, .tup ds, e => Tg.binds ts ds e
  | .tp _, _, _ => none
def Tg.binds : List Tg → List D → Env' → Option Env'
  | [], [], e => some e
  | t :: ts, d :: ds, e => (match t.bind d e with
    | some e1 => Tg.binds ts ds e1
    | none => none)
  | _, _, _ => none
end
inductive Ex where
  | cst (d : D)
  | var (i : Nat)
  /-- a plain operation -/
  | op (f : List D → Option D) (as : List Ex)
  /-- something made of its parts -/
  | mk (f : List D → Option D) (as : List Ex)
  | call (φ : List D → Option D) (as : List Ex)
  /-- the first argument is the own thing at place i -/
  | callO (φ : List D → Option (D × D)) (i : Nat) (as : List Ex)
  /-- the arguments are only looked at; a flat answer -/
  | callB (φ : List D → Option D) (as : List Ex)
  | and_ (a b : Ex)
  | or_ (a b : Ex)
  | ite (c a b : Ex)
  /-- a < b < c -/
  | chain (f g : List D → Option D) (a b c : Ex)
  | lc (g : List D → Option (List D)) (as : List Ex) (vs : List Nat) (tg : Tg) (cs : List Ex) (elt : Ex)
  | lc2 (g : List D → Option (List D)) (as : List Ex) (vs : List Nat) (tg : Tg) (g2 : List D → Option (List D)) (as2 : List Ex) (tg2 : Tg) (cs : List Ex) (elt : Ex)
def wipeE (e : Env') : List Nat → Env'
  | [] => e
  | v :: vs => (wipeE e vs).set v .un
/-- the outer values of the places vs again -/
def backE (e0 e : Env') : List Nat → Env'
  | [] => e
  | v :: vs => (match e0[v]? with
    | some b => (backE e0 e vs).set v b
    | none => backE e0 e vs)
def softE (e : Env') (vs : List Nat) : Bool := vs.all fun v => match e[v]? with
  | some b => !b.isOw
  | none => false
/-- turn by turn, collecting -/
def lcLoop (f : D → Env' → Option (List D × Env')) : List D → Env' → Option (List D × Env')
  | [], e => some ([], e)
  | d :: ds, e => (match f d e with
    | some (ys, e1) => (match lcLoop f ds e1 with
      | some (zs, e2) => some (ys ++ zs, e2)
      | none => none)
    | none => none)
/-- a turn of a comprehension: the tests t, the element f -/
def lcTurn (tg : Tg) (vs : List Nat) (t : Env' → Option (Bool × Env')) (f : Env' → Option (Rv × Env')) (d : D) (e : Env') : Option (List D × Env') := match tg.bind d e with
  | some e3 => (match t e3 with
    | some (true, e4) => (match f e4 with
      | some (r, e5) => (match r.settle e5 with
        | some (y, e6) => some ([y], wipeE e6 vs)
        | none => none)
      | none => none)
    | some (false, e4) => some ([], wipeE e4 vs)
    | none => none)
  | none => none
def ownAt (e : Env') (i : Nat) : Bool := match e[i]? with
  | some b => b.isOw
  | none => false
def lstAt (e : Env') (i : Nat) : Bool := match e[i]? with
  | some (.ow (.lst _)) => true
  | some (.io (.lst _)) => true
  | _ => false
mutual
def ev : Ex → Env' → Option (Rv × Env')
  | .cst d, e => some (.pers d, e)
  | .var i, e => (match e[i]? with
    | some (.im d) => some (.pers d, e)
    | some (.ow _) => some (.bor i, e)
    | some (.io _) => some (.bor i, e)
    | _ => none)
  | .op f as, e => (match evs as e with
    | some (rs, e1) => (match gets e1 rs with
      | some ds => (match f ds with
        | some d => some (.pers d, e1)
        | none => none)
      | none => none)
    | none => none)
  | .mk f as, e => (match evs as e with
    | some (rs, e1) => (match settles e1 rs with
      | some (ds, e2) => (match f ds with
        | some d => some (.pers d, e2)
        | none => none)
      | none => none)
    | none => none)
  | .call φ as, e => (match evs as e with
    | some (rs, e1) => (match settles e1 rs with
      | some (ds, e2) => (match φ ds with
        | some d => some (.pers d, e2)
        | none => none)
      | none => none)
    | none => none)
  | .callO φ i as, e => if ownAt e i then (match evs as e with
    | some (rs, e1) => (match settles e1 rs with
      | some (ds, e2) => (match e2[i]? with
        | some (.ow d0) => (match φ (d0 :: ds) with
          | some (d, d1) => some (.pers d, e2.set i (.ow d1))
          | none => none)
        | some (.io d0) => (match φ (d0 :: ds) with
          | some (d, d1) => some (.pers d, e2.set i (.io d1))
          | none => none)
        | _ => none)
      | none => none)
    | none => none) else none
  | .callB φ as, e => (match evs as e with
    | some (rs, e1) => (match gets e1 rs with
      | some ds => (match φ ds with
        | some d => if d.flat then some (.pers d, e1) else none
        | none => none)
      | none => none)
    | none => none)
  | .and_ a b, e => (match ev a e with
    | some (r, e1) => (match r.get e1 with
      | some d => (match truth d with
        | some true => ev b e1
        | some false => some (r, e1)
        | none => none)
      | none => none)
    | none => none)
  | .or_ a b, e => (match ev a e with
    | some (r, e1) => (match r.get e1 with
      | some d => (match truth d with
        | some false => ev b e1
        | some true => some (r, e1)
        | none => none)
      | none => none)
    | none => none)
  | .ite c a b, e => (match ev c e with
    | some (r, e1) => (match r.get e1 with
      | some d => (match truth d with
        | some true => ev a e1
        | some false => ev b e1
        | none => none)
      | none => none)
    | none => none)
  | .chain f g a b c, e => (match ev a e with
    | some (ra, e1) => (match ev b e1 with
      | some (rb, e2) => (match gets e2 [ra, rb] with
        | some ds => (match f ds with
          | some (.bl true) => (match ev c e2 with
            | some (rc, e3) => (match gets e3 [rb, rc] with
              | some ds2 => (match g ds2 with
                | some d => some (.pers d, e3)
                | none => none)
              | none => none)
            | none => none)
          | some (.bl false) => some (.pers (.bl false), e2)
          | _ => none)
        | none => none)
      | none => none)
    | none => none)
  | .lc g as vs tg cs elt, e => (match evs as e with
    | some (rs, e1) => (match settles e1 rs with
      | some (ds, e2) => (match g ds with
        | some items => if softE e2 vs then (match lcLoop (lcTurn tg vs (fun e => evt cs e) (fun e => ev elt e)) items (wipeE e2 vs) with
          | some (ys, e7) => if ys.length ≤ 16000000 then some (.pers (.lst ys), backE e2 e7 vs) else none
          | none => none) else none
        | none => none)
      | none => none)
    | none => none)
  | .lc2 g as vs tg g2 as2 tg2 cs elt, e => none
def evs : List Ex → Env' → Option (List Rv × Env')
  | [], e => some ([], e)
  | a :: as, e => (match ev a e with
    | some (r, e1) => (match evs as e1 with
      | some (rs, e2) => some (r :: rs, e2)
      | none => none)
    | none => none)
/-- none or one test -/
def evt : List Ex → Env' → Option (Bool × Env')
  | [], e => some (true, e)
  | c :: _, e => (match ev c e with
    | some (r, e1) => (match r.get e1 with
      | some d => (match truth d with
        | some b => some (b, e1)
        | none => none)
      | none => none)
    | none => none)
end
inductive S where
  | skip
  | seq (a b : S)
  | set (tg : Tg) (x : Ex)
  | setO (i : Nat) (x : Ex)
  | par (i j : Nat) (a b : Ex)
  | exp (x : Ex)
  | app (i : Nat) (x : Ex)
  | sub (f : D → D → D → Option D) (i : Nat) (k x : Ex)
  | iff (c : Ex) (a b : S)
  | forr (g : List D → Option (List D)) (as : List Ex) (tg : Tg) (b : S)
  | whil (n : Nat) (c : Ex) (b : S)
  | ret (x : Ex)
  | retN
  | brk
  | cnt
  | never
inductive Out where
  | nx (e : Env')
  | rt (d : D) (e : Env')
  | bk (e : Env')
  | ct (e : Env')
def forLoop (f : D → Env' → Option Out) : List D → Env' → Option Out
  | [], e => some (.nx e)
  | d :: ds, e => (match f d e with
    | some (.nx e1) => forLoop f ds e1
    | some (.ct e1) => forLoop f ds e1
    | some (.bk e1) => some (.nx e1)
    | some (.rt v e1) => some (.rt v e1)
    | none => none)
def whileLoop (c : Env' → Option (Bool × Env')) (f : Env' → Option Out) : Nat → Env' → Option Out
  | 0, _ => none
  | n + 1, e => (match c e with
    | some (false, e1) => some (.nx e1)
    | some (true, e1) => (match f e1 with
      | some (.nx e2) => whileLoop c f n e2
      | some (.ct e2) => whileLoop c f n e2
      | some (.bk e2) => some (.nx e2)
      | some (.rt v e2) => some (.rt v e2)
      | none => none)
    | none => none)
def D.isObj : D → Bool
  | .lst _ => true
  | .dic _ _ => true
  | _ => false
def ex : S → Env' → Option Out
  | .skip, e => some (.nx e)
  | .seq a b, e => (match ex a e with
    | some (.nx e1) => ex b e1
    | some o => some o
    | none => none)
  | .set tg x, e => (match ev x e with
    | some (r, e1) => (match r.settle e1 with
      | some (d, e2) => (match tg.bind d e2 with
        | some e3 => some (.nx e3)
        | none => none)
      | none => none)
    | none => none)
  | .setO i x, e => (match ev x e with
    | some (.pers d, e1) => (match e1[i]? with
      | some (.io _) => none
      | some _ => some (.nx (e1.set i (.ow d)))
      | none => none)
    | _ => none)
  | .par i j a b, e => (match evs [a, b] e with
    | some (rs, e1) => (match settles e1 rs with
      | some ([x, y], e2) => (match Tg.binds [.nm i, .nm j] [x, y] e2 with
        | some e3 => some (.nx e3)
        | none => none)
      | _ => none)
    | none => none)
  | .exp x, e => (match ev x e with
    | some (_, e1) => some (.nx e1)
    | none => none)
  | .app i x, e => if lstAt e i then (match ev x e with
    | some (r, e1) => (match r.settle e1 with
      | some (d, e2) => (match e2[i]? with
        | some (.ow (.lst l)) => if l.length < 16000000 then some (.nx (e2.set i (.ow (.lst (l ++ [d]))))) else none
        | some (.io (.lst l)) => if l.length < 16000000 then some (.nx (e2.set i (.io (.lst (l ++ [d]))))) else none
        | _ => none)
      | none => none)
    | none => none) else none
  | .sub f i k x, e => if ownAt e i then (match evs [x, k] e with
    | some (rs, e1) => (match settles e1 rs with
      | some ([d, kd], e2) => (match e2[i]? with
        | some (.ow o) => (match f o kd d with
          | some o' => some (.nx (e2.set i (.ow o')))
          | none => none)
        | some (.io o) => (match f o kd d with
          | some o' => some (.nx (e2.set i (.io o')))
          | none => none)
        | _ => none)
      | _ => none)
    | none => none) else none
  | .iff c a b, e => (match ev c e with
    | some (r, e1) => (match r.get e1 with
      | some d => (match truth d with
        | some true => ex a e1
        | some false => ex b e1
        | none => none)
      | none => none)
    | none => none)
  | .forr g as tg b, e => (match evs as e with
    | some (rs, e1) => (match settles e1 rs with
      | some (ds, e2) => (match g ds with
        | some items => forLoop (fun d e => match tg.bind d e with
          | some e3 => ex b e3
          | none => none) items e2
        | none => none)
      | none => none)
    | none => none)
  | .whil n c b, e => whileLoop (fun e => match ev c e with
      | some (r, e1) => (match r.get e1 with
        | some d => (match truth d with
          | some t => some (t, e1)
          | none => none)
        | none => none)
      | none => none) (fun e => ex b e) n e
  | .ret x, e => (match ev x e with
    | some (r, e1) => (match r.settle e1 with
      | some (d, e2) => some (.rt d e2)
      | none => none)
    | none => none)
  | .retN, e => some (.rt .non e)
  | .brk, e => some (.bk e)
  | .cnt, e => some (.ct e)
  | .never, _ => none
end Mi

/-! What holds of the heap while such a program runs. -/
namespace Mi
open PySem PySem.Spec PyProof.Rows L2 GxR
structure Cfg where
  K : Frag
  tt : List Addr
def SlotOk (C : Cfg) (F G H : Hp) (s : Option (Option V)) : B → Prop
  | .un => True
  | .im d => ∃ v, s = some (some v) ∧ Rep C.K G v d
  | .ow d => ∃ p o, s = some (some (.ref p)) ∧ G p = none ∧ F p = none ∧ p ∉ C.tt ∧ H p = some o ∧ RepO C.K G o d
  | .io d => ∃ p o, s = some (some (.ref p)) ∧ G p = none ∧ F p = none ∧ p ∉ C.tt ∧ H p = some o ∧ RepO C.K G o d
def Own (σ : St) (e : Env') (i : Nat) (p : Addr) : Prop := σ[i]? = some (some (.ref p)) ∧ ∃ b, e[i]? = some b ∧ b.isOw = true
structure Rel (C : Cfg) (F G0 G H : Hp) (pn : Option (Nat × Addr)) (σ : St) (e : Env') : Prop where
  fh : Same F H
  gh : Same G H
  gf : ∀ p, F p ≠ none → G p = G0 p
  tb : ∀ P ∈ C.tt, TabG H P ∧ G P = none ∧ F P = none
  sl : ∀ (i : Nat) (b : B), e[i]? = some b → SlotOk C F G H σ[i]? b
  ap : ∀ i j p, Own σ e i p → Own σ e j p → i = j
  pi : ∀ i p, pn = some (i, p) → σ[i]? = some (some (.ref p)) ∧ ∃ d, e[i]? = some (.io d)
  ln : σ.length = e.length
structure Grow (C : Cfg) (G H G' H' : Hp) : Prop where
  gg : Same G G'
  gh : Same G' H'
  hh : ∀ p, H p ≠ none → p ∉ C.tt → H' p = H p
  go : ∀ p, H p ≠ none → G' p = G p
  tb : ∀ P ∈ C.tt, TabG H' P
def RepR (K : Frag) (G : Hp) (σ : St) (e : Env') (r : Rv) (v : V) : Prop := match r with
  | .pers d => Rep K G v d
  | .bor i => σ[i]? = some (some v) ∧ ∃ (b : B) (d : D), e[i]? = some b ∧ b.data = some d
/-- the outermost thing stands in H, its parts in G -/
inductive RepT (K : Frag) (G H : Hp) : V → D → Prop
  | non : RepT K G H .non .non
  | bl (b : Bool) : RepT K G H (.bl b) (.bl b)
  | int (i : Int) : RepT K G H (.int i) (.int i)
  | str (s : List Nat) : RepT K G H (.str ⟨s.toArray⟩) (.str s)
  | tup {a : Addr} {xs : List V} {ds : List D} : G a = some (.tup xs) → H a = some (.tup xs) → RepL K G xs ds → RepT K G H (.ref a) (.tup ds)
  | lst {a : Addr} {xs : List V} {ds : List D} : H a = some (.lst xs) → RepL K G xs ds → RepT K G H (.ref a) (.lst ds)
  | scr {a : Addr} {ns : List Int} : SqL K H a (ns.map V.int) → RepT K G H (.ref a) (.scr ns)
  | dK {a : Addr} {kvs : List (Key × V)} {ks vs : List D} : H a = some (.dK kvs) → ks = kvs.map (fun q => keyD q.1) → RepL K G (kvs.map (·.2)) vs → RepT K G H (.ref a) (.dic ks vs)
  | dT {a : Addr} {kvs : List (List Key × V)} {ks vs : List D} : H a = some (.dT kvs) → ks = kvs.map (fun q => D.tup (q.1.map keyD)) → RepL K G (kvs.map (·.2)) vs → RepT K G H (.ref a) (.dic ks vs)
section
variable {C : Cfg} {F G0 G G' H H' : Hp} {pn : Option (Nat × Addr)} {σ : St} {e e' : Env'} {v : V} {d : D}
theorem Rep.top (s : Same G H) (h : Rep C.K G v d) : RepT C.K G H v d := by
  cases h with
  | non => exact .non
  | bl b => exact .bl b
  | int i => exact .int i
  | str s => exact .str s
  | tup q r => exact .tup q (s _ _ q) r
  | lst q r => exact .lst (s _ _ q) r
  | scr q => exact .scr (s.seq q)
  | dK q e r => exact .dK (s _ _ q) e r
  | dT q e r => exact .dT (s _ _ q) e r
theorem RepT.all (s : Same G H) (h : RepT C.K G H v d) : Rep C.K H v d := by
  cases h with
  | non => exact .non
  | bl b => exact .bl b
  | int i => exact .int i
  | str s => exact .str s
  | tup g q r => exact .tup q (r.mono s)
  | lst q r => exact .lst q (r.mono s)
  | scr q => exact .scr q
  | dK q e r => exact .dK q e (r.mono s)
  | dT q e r => exact .dT q e (r.mono s)
theorem RepT.flat (f : d.flat = true) (h : RepT C.K G H v d) (G' : Hp) : Rep C.K G' v d := by
  cases h with
  | non => exact .non
  | bl b => exact .bl b
  | int i => exact .int i
  | str s => exact .str s
  | tup g q r => cases f
  | lst q r => cases f
  | scr q => cases f
  | dK q e r => cases f
  | dT q e r => cases f
theorem Rep.flat (f : d.flat = true) (h : Rep C.K G v d) (G' : Hp) : Rep C.K G' v d := by
  cases h with
  | non => exact .non
  | bl b => exact .bl b
  | int i => exact .int i
  | str s => exact .str s
  | tup q r => cases f
  | lst q r => cases f
  | scr q => cases f
  | dK q e r => cases f
  | dT q e r => cases f
theorem Grow.refl (s : Same G H) (t : ∀ P ∈ C.tt, TabG H P) : Grow C G H G H := ⟨Same.refl G, s, fun _ _ _ => rfl, fun _ _ => rfl, t⟩
theorem tabG_some {P : Addr} (h : TabG H P) : H P ≠ none := by
  obtain ⟨ps, e, _⟩ := h
  rw [e]; exact fun z => nomatch z
theorem Rel.tabs (R : Rel C F G0 G H pn σ e) : ∀ P ∈ C.tt, TabG H P := fun P h => (R.tb P h).1
/-- something new is laid, known from now on -/
theorem grow_new {p : Addr} {o : HO} (s : Same G H) (t : ∀ P ∈ C.tt, TabG H P) (hp : H p = none) : Grow C G H (upd G p o) (upd H p o) := by
  have gp : G p = none := s.free hp
  refine ⟨fun b u h => by rw [upd_ne (ne_of_none h gp)]; exact h, fun b u h => ?_, fun b h _ => ?_, fun b h => ?_, fun P hP => ?_⟩
  · by_cases e : b = p
    · rw [e, upd_same] at h; rw [e, upd_same]; exact h
    · rw [upd_ne e] at h ⊢; exact s b u h
  · exact upd_ne (fun e => h (e ▸ hp))
  · exact upd_ne (fun e => h (e ▸ hp))
  · obtain ⟨ps, e, h⟩ := t P hP
    exact ⟨ps, by rw [upd_ne (ne_of_none e hp)]; exact e, h⟩
/-- something new is laid, known to nobody yet -/
theorem grow_own {p : Addr} {o : HO} (s : Same G H) (t : ∀ P ∈ C.tt, TabG H P) (hp : H p = none) : Grow C G H G (upd H p o) := by
  have gp : G p = none := s.free hp
  refine ⟨Same.refl G, fun b u h => by rw [upd_ne (ne_of_none h gp)]; exact s b u h, fun b h _ => upd_ne (fun e => h (e ▸ hp)), fun b _ => rfl, fun P hP => ?_⟩
  obtain ⟨ps, e, h⟩ := t P hP
  exact ⟨ps, by rw [upd_ne (ne_of_none e hp)]; exact e, h⟩
theorem Rel.grow (R : Rel C F G0 G H pn σ e) (g : Grow C G H G' H') : Rel C F G0 G' H' pn σ e := by
  have fs : ∀ p, F p ≠ none → H p ≠ none := fun p h => by
    cases q : F p with
    | none => exact absurd q h
    | some o => rw [R.fh p o q]; exact fun z => nomatch z
  refine ⟨fun p o h => ?_, g.gh, fun p h => by rw [g.go p (fs p h)]; exact R.gf p h, fun P hP => ⟨g.tb P hP, ?_, (R.tb P hP).2.2⟩, fun i b hb => ?_, R.ap, R.pi, R.ln⟩
  · have hne : p ∉ C.tt := fun z => by rw [(R.tb p z).2.2] at h; cases h
    rw [g.hh p (by rw [R.fh p o h]; exact fun z => nomatch z) hne]
    exact R.fh p o h
  · rw [g.go P (tabG_some (R.tb P hP).1)]; exact (R.tb P hP).2.1
  · have q := R.sl i b hb
    have ow : ∀ {p : Addr} {o : HO} {d : D}, G p = none → F p = none → p ∉ C.tt → H p = some o → RepO C.K G o d → G' p = none ∧ H' p = some o ∧ RepO C.K G' o d := fun {p o d} h1 h2 h3 h4 h5 => by
      have hs : H p ≠ none := by rw [h4]; exact fun z => nomatch z
      exact ⟨by rw [g.go p hs]; exact h1, by rw [g.hh p hs h3]; exact h4, h5.mono g.gg⟩
    cases b with
    | un => trivial
    | im d =>
      obtain ⟨v, h1, h2⟩ := q
      exact ⟨v, h1, h2.mono g.gg⟩
    | ow d =>
      obtain ⟨p, o, h0, h1, h2, h3, h4, h5⟩ := q
      obtain ⟨k1, k2, k3⟩ := ow h1 h2 h3 h4 h5
      exact ⟨p, o, h0, k1, h2, h3, k2, k3⟩
    | io d =>
      obtain ⟨p, o, h0, h1, h2, h3, h4, h5⟩ := q
      obtain ⟨k1, k2, k3⟩ := ow h1 h2 h3 h4 h5
      exact ⟨p, o, h0, k1, h2, h3, k2, k3⟩
theorem RepR.mono (s : Same G G') {r : Rv} (h : RepR C.K G σ e r v) : RepR C.K G' σ e r v := by
  cases r with
  | pers d => exact Rep.mono s d v h
  | bor i => exact h
/-- the places keep having values -/
def Kept (e e' : Env') : Prop := ∀ (i : Nat) (b : B) (d : D), e[i]? = some b → b.data = some d → ∃ (b' : B) (d' : D), e'[i]? = some b' ∧ b'.data = some d'
theorem Kept.refl (e : Env') : Kept e e := fun i b d h q => ⟨b, d, h, q⟩
theorem Kept.trans {e1 e2 e3 : Env'} (a : Kept e1 e2) (b : Kept e2 e3) : Kept e1 e3 := fun i x d h q => by
  obtain ⟨y, d', h', q'⟩ := a i x d h q
  exact b i y d' h' q'
theorem Kept.set {b : B} {d : D} {i : Nat} (hb : b.data = some d) : Kept e (e.set i b) := fun j x d' h q => by
  by_cases hj : i = j
  · subst hj
    refine ⟨b, d, ?_, hb⟩
    rw [List.getElem?_set_self (List.getElem?_eq_some_iff.mp h).1]
  · exact ⟨x, d', by rw [List.getElem?_set_ne hj]; exact h, q⟩
theorem RepR.env {r : Rv} (k : Kept e e') (h : RepR C.K G σ e r v) : RepR C.K G σ e' r v := by
  cases r with
  | pers d => exact h
  | bor i =>
    obtain ⟨h1, b, d, h2, h3⟩ := h
    obtain ⟨b', d', h4, h5⟩ := k i b d h2 h3
    exact ⟨h1, b', d', h4, h5⟩
theorem repO_top {a : Addr} {o : HO} (h : H a = some o) (r : RepO C.K G o d) : RepT C.K G H (.ref a) d := by
  cases r with
  | lst r => exact .lst h r
  | dK e r => exact .dK h e r
  | dT e r => exact .dT h e r
theorem Rel.get (R : Rel C F G0 G H pn σ e) {r : Rv} (h : RepR C.K G σ e r v) (g : r.get e = some d) : RepT C.K G H v d := by
  cases r with
  | pers d' =>
    have q : d' = d := Option.some.inj g
    subst q
    exact Rep.top R.gh h
  | bor i =>
    obtain ⟨h1, b, d', h2, h3⟩ := h
    have q := R.sl i b h2
    have g' : b.data = some d := by
      have g2 : (match e[i]? with
        | some b => (match b.data with
          | some (.lst l) => some (.lst l)
          | some (.dic k v) => some (.dic k v)
          | _ => none)
        | none => none) = some d := g
      rw [h2] at g2
      dsimp only at g2
      split at g2
      · rename_i l hl; rw [hl]; exact g2
      · rename_i k v hl; rw [hl]; exact g2
      · cases g2
    rw [h1] at q
    cases b with
    | un => cases g'
    | im d2 =>
      cases g'
      obtain ⟨v2, e2, r2⟩ := q
      cases e2
      exact Rep.top R.gh r2
    | ow d2 =>
      cases g'
      obtain ⟨p, o, e2, _, _, _, h4, h5⟩ := q
      cases e2
      exact repO_top h4 h5
    | io d2 =>
      cases g'
      obtain ⟨p, o, e2, _, _, _, h4, h5⟩ := q
      cases e2
      exact repO_top h4 h5
theorem get_flat {r : Rv} (h : r.get e = some d) (f : d.flat = true) : r = .pers d := by
  cases r with
  | pers x => cases h; rfl
  | bor i =>
    have g2 : (match e[i]? with
      | some b => (match b.data with
        | some (.lst l) => some (.lst l)
        | some (.dic k v) => some (.dic k v)
        | _ => none)
      | none => none) = some d := h
    split at g2
    · split at g2
      · cases g2; cases f
      · cases g2; cases f
      · cases g2
    · cases g2
inductive RepRs (K : Frag) (G : Hp) (σ : St) (e : Env') : List Rv → List V → Prop
  | nil : RepRs K G σ e [] []
  | cons {r : Rv} {v : V} {rs : List Rv} {vs : List V} : RepR K G σ e r v → RepRs K G σ e rs vs → RepRs K G σ e (r :: rs) (v :: vs)
inductive RepTs (K : Frag) (G H : Hp) : List V → List D → Prop
  | nil : RepTs K G H [] []
  | cons {v : V} {d : D} {vs : List V} {ds : List D} : RepT K G H v d → RepTs K G H vs ds → RepTs K G H (v :: vs) (d :: ds)
theorem RepRs.mono (s : Same G G') : ∀ {rs : List Rv} {vs : List V}, RepRs C.K G σ e rs vs → RepRs C.K G' σ e rs vs
  | _, _, .nil => .nil
  | _, _, .cons a b => .cons (a.mono s) (b.mono s)
theorem RepRs.env (k : Kept e e') : ∀ {rs : List Rv} {vs : List V}, RepRs C.K G σ e rs vs → RepRs C.K G σ e' rs vs
  | _, _, .nil => .nil
  | _, _, .cons a b => .cons (a.env k) (b.env k)
theorem Rel.gets (R : Rel C F G0 G H pn σ e) : ∀ {rs : List Rv} {vs : List V} {ds : List D}, RepRs C.K G σ e rs vs → Mi.gets e rs = some ds → RepTs C.K G H vs ds
  | [], _, ds, h, g => by
    cases h
    cases g
    exact .nil
  | r :: rs, _, ds, h, g => by
    cases h with
    | cons a b =>
      unfold Mi.gets at g
      cases q : r.get e with
      | none => rw [q] at g; cases g
      | some d =>
        rw [q] at g
        cases q2 : Mi.gets e rs with
        | none => rw [q2] at g; cases g
        | some ds' =>
          rw [q2] at g
          cases g
          exact .cons (R.get a q) (Rel.gets R b q2)
/-- an own thing is made known -/
theorem Rel.freeze (R : Rel C F G0 G H pn σ e) {i : Nat} {p : Addr} (hs : σ[i]? = some (some (.ref p))) (he : e[i]? = some (.ow d)) :
    ∃ G', Same G G' ∧ Rel C F G0 G' H pn σ (e.set i (.im d)) ∧ Rep C.K G' (.ref p) d := by
  have q := R.sl i _ he
  rw [hs] at q
  obtain ⟨p', o, e2, h1, h2, h3, h4, h5⟩ := q
  cases e2
  have hi : i < e.length := (List.getElem?_eq_some_iff.mp he).1
  have s : Same G (upd G p o) := fun b u h => by rw [upd_ne (ne_of_none h h1)]; exact h
  have rp : Rep C.K (upd G p o) (.ref p) d := by
    have q : Same (upd G p o) H := fun b u h => by
      by_cases e : b = p
      · rw [e, upd_same] at h; rw [e, h4]; exact h
      · rw [upd_ne e] at h; exact R.gh b u h
    cases h5 with
    | lst r => exact .lst upd_same (r.mono s)
    | dK e r => exact .dK upd_same e (r.mono s)
    | dT e r => exact .dT upd_same e (r.mono s)
  have ow0 : Own σ e i p := ⟨hs, _, he, rfl⟩
  refine ⟨upd G p o, s, ⟨R.fh, fun b u h => ?_, fun b h => ?_, fun P hP => ⟨(R.tb P hP).1, ?_, (R.tb P hP).2.2⟩, fun j b hb => ?_, fun j k a ⟨a1, b1, a2, a3⟩ ⟨b1', b2, b3, b4⟩ => ?_, fun j a ha => ?_, by rw [List.length_set]; exact R.ln⟩, rp⟩
  · by_cases e : b = p
    · rw [e, upd_same] at h; rw [e, h4]; exact h
    · rw [upd_ne e] at h; exact R.gh b u h
  · rw [upd_ne (fun z => h (by rw [z]; exact h2))]; exact R.gf b h
  · rw [upd_ne (fun z => h3 (by rw [← z]; exact hP))]; exact (R.tb P hP).2.1
  · by_cases hj : i = j
    · subst hj
      rw [List.getElem?_set_self hi] at hb
      cases hb
      exact ⟨_, hs, rp⟩
    · rw [List.getElem?_set_ne hj] at hb
      have q := R.sl j b hb
      have far : ∀ {p' : Addr}, σ[j]? = some (some (.ref p')) → b.isOw = true → p' ≠ p := fun {p'} a1 a2 z => by
        subst z
        exact hj (R.ap i j p' ow0 ⟨a1, b, hb, a2⟩)
      cases b with
      | un => trivial
      | im d' =>
        obtain ⟨v, k1, k2⟩ := q
        exact ⟨v, k1, k2.mono s⟩
      | ow d' =>
        obtain ⟨p', o', k0, k1, k2, k3, k4, k5⟩ := q
        exact ⟨p', o', k0, by rw [upd_ne (far k0 rfl)]; exact k1, k2, k3, k4, k5.mono s⟩
      | io d' =>
        obtain ⟨p', o', k0, k1, k2, k3, k4, k5⟩ := q
        exact ⟨p', o', k0, by rw [upd_ne (far k0 rfl)]; exact k1, k2, k3, k4, k5.mono s⟩
  · have back : ∀ {j : Nat} {b : B}, (e.set i (.im d))[j]? = some b → b.isOw = true → e[j]? = some b := fun {j b} hb ho => by
      by_cases hj : i = j
      · subst hj
        rw [List.getElem?_set_self hi] at hb
        cases hb
        cases ho
      · rw [List.getElem?_set_ne hj] at hb; exact hb
    exact R.ap j k a ⟨a1, b1, back a2 a3, a3⟩ ⟨b1', b2, back b3 b4, b4⟩
  · obtain ⟨k1, d', k2⟩ := R.pi j a ha
    refine ⟨k1, d', ?_⟩
    rw [List.getElem?_set_ne ?_]
    · exact k2
    · intro z
      subst z
      rw [he] at k2
      cases k2
theorem Rel.settle (R : Rel C F G0 G H pn σ e) {r : Rv} (h : RepR C.K G σ e r v) (g : r.settle e = some (d, e')) :
    ∃ G', Same G G' ∧ Rel C F G0 G' H pn σ e' ∧ Rep C.K G' v d ∧ Kept e e' := by
  cases r with
  | pers d' =>
    cases g
    exact ⟨G, Same.refl G, R, h, Kept.refl e⟩
  | bor i =>
    obtain ⟨h1, b, d', h2, h3⟩ := h
    have g' : (match e[i]? with
      | some (.im d) => some (d, e)
      | some (.ow d) => some (d, e.set i (.im d))
      | _ => none) = some (d, e') := g
    rw [h2] at g'
    have q := R.sl i b h2
    rw [h1] at q
    cases b with
    | un => cases g'
    | im d2 =>
      cases g'
      obtain ⟨v2, e2, r2⟩ := q
      cases e2
      exact ⟨G, Same.refl G, R, r2, Kept.refl e⟩
    | ow d2 =>
      cases g'
      obtain ⟨p, o, e2, _⟩ := q
      cases e2
      obtain ⟨G', s, R', rp⟩ := R.freeze h1 h2
      exact ⟨G', s, R', rp, Kept.set rfl⟩
    | io d2 => cases g'
theorem Rel.settles : ∀ {rs : List Rv} {vs : List V} {ds : List D} {e' : Env'} {G : Hp} {e : Env'}, Rel C F G0 G H pn σ e → RepRs C.K G σ e rs vs → Mi.settles e rs = some (ds, e') →
    ∃ G', Same G G' ∧ Rel C F G0 G' H pn σ e' ∧ RepL C.K G' vs ds ∧ Kept e e'
  | [], _, _, _, G, e, R, h, g => by
    cases h
    cases g
    exact ⟨G, Same.refl G, R, .nil, Kept.refl _⟩
  | r :: rs, _, ds, e', G, e, R, h, g => by
    cases h with
    | cons a b =>
      unfold Mi.settles at g
      cases q : r.settle e with
      | none => rw [q] at g; cases g
      | some x =>
        obtain ⟨d, e1⟩ := x
        rw [q] at g
        cases q2 : Mi.settles e1 rs with
        | none => simp only [q2] at g; cases g
        | some y =>
          obtain ⟨ds', e2⟩ := y
          simp only [q2] at g
          cases g
          obtain ⟨G1, s1, R1, r1, k1⟩ := R.settle a q
          obtain ⟨G2, s2, R2, r2, k2⟩ := Rel.settles R1 ((b.mono s1).env k1) q2
          exact ⟨G2, s1.trans s2, R2, .cons (r1.mono s2) r2, k1.trans k2⟩
end
end Mi

/-! Expressions. -/
namespace Mi
open PySem PySem.Spec PyProof.Rows L2 GxR
/-! ### places keep their values -/
def KeptOff (vs : List Nat) (e e' : Env') : Prop := ∀ (i : Nat), i ∉ vs → ∀ (b : B) (d : D), e[i]? = some b → b.data = some d → ∃ (b' : B) (d' : D), e'[i]? = some b' ∧ b'.data = some d'
theorem Kept.off {e e' : Env'} (k : Kept e e') (vs : List Nat) : KeptOff vs e e' := fun i _ b d h q => k i b d h q
theorem KeptOff.trans {vs : List Nat} {a b c : Env'} (h : KeptOff vs a b) (g : KeptOff vs b c) : KeptOff vs a c := fun i hi x d h1 h2 => by
  obtain ⟨y, d', h3, h4⟩ := h i hi x d h1 h2
  exact g i hi y d' h3 h4
theorem wipeE_off {e : Env'} {i : Nat} : ∀ {vs : List Nat}, i ∉ vs → (wipeE e vs)[i]? = e[i]?
  | [], _ => rfl
  | v :: vs, h => by
    unfold wipeE
    have h' : i ≠ v ∧ i ∉ vs := ⟨fun z => h (by rw [z]; exact List.mem_cons_self), fun z => h (List.mem_cons_of_mem _ z)⟩
    rw [List.getElem?_set_ne (fun z => h'.1 z.symm)]
    exact wipeE_off h'.2
theorem wipeE_len {e : Env'} : ∀ vs : List Nat, (wipeE e vs).length = e.length
  | [] => rfl
  | v :: vs => by unfold wipeE; rw [List.length_set]; exact wipeE_len vs
theorem wipeE_in {e : Env'} {i : Nat} {b : B} : ∀ {vs : List Nat}, i ∈ vs → (wipeE e vs)[i]? = some b → b = .un
  | v :: vs, h, q => by
    unfold wipeE at q
    by_cases hv : v = i
    · subst hv
      have hl := (List.getElem?_eq_some_iff.mp q).1
      rw [List.length_set] at hl
      rw [List.getElem?_set_self hl] at q
      exact (Option.some.inj q).symm
    · rw [List.getElem?_set_ne hv] at q
      rcases List.mem_cons.mp h with z | z
      · exact absurd z.symm hv
      · exact wipeE_in z q
theorem wipeE_kept {e : Env'} (vs : List Nat) : KeptOff vs e (wipeE e vs) := fun i hi b d h q => ⟨b, d, by rw [wipeE_off hi]; exact h, q⟩
theorem backE_off {e0 e : Env'} {i : Nat} : ∀ {vs : List Nat}, i ∉ vs → (backE e0 e vs)[i]? = e[i]?
  | [], _ => rfl
  | v :: vs, h => by
    have h' : i ≠ v ∧ i ∉ vs := ⟨fun z => h (by rw [z]; exact List.mem_cons_self), fun z => h (List.mem_cons_of_mem _ z)⟩
    unfold backE
    cases q : e0[v]? with
    | none => exact backE_off h'.2
    | some b =>
      show ((backE e0 e vs).set v b)[i]? = e[i]?
      rw [List.getElem?_set_ne (fun z => h'.1 z.symm)]
      exact backE_off h'.2
theorem backE_len {e0 e : Env'} : ∀ vs : List Nat, (backE e0 e vs).length = e.length
  | [] => rfl
  | v :: vs => by
    unfold backE
    cases q : e0[v]? with
    | none => exact backE_len vs
    | some b =>
      show ((backE e0 e vs).set v b).length = e.length
      rw [List.length_set]
      exact backE_len vs
theorem backE_in {e0 e : Env'} {i : Nat} {b : B} (hl : e0.length = e.length) : ∀ {vs : List Nat}, i ∈ vs → e0[i]? = some b → (backE e0 e vs)[i]? = some b
  | v :: vs, h, q => by
    have hi : i < e.length := by rw [← hl]; exact (List.getElem?_eq_some_iff.mp q).1
    unfold backE
    by_cases hv : v = i
    · subst hv
      rw [q]
      show ((backE e0 e vs).set v b)[v]? = some b
      rw [List.getElem?_set_self (by rw [backE_len]; exact hi)]
    · rcases List.mem_cons.mp h with z | z
      · exact absurd z.symm hv
      · cases q2 : e0[v]? with
        | none => exact backE_in hl z q
        | some b2 =>
          show ((backE e0 e vs).set v b2)[i]? = some b
          rw [List.getElem?_set_ne hv]
          exact backE_in hl z q
theorem settle_kept {e e' : Env'} {r : Rv} {d : D} (h : r.settle e = some (d, e')) : Kept e e' ∧ e'.length = e.length := by
  cases r with
  | pers x => cases h; exact ⟨Kept.refl e, rfl⟩
  | bor i =>
    have g' : (match e[i]? with
      | some (.im d) => some (d, e)
      | some (.ow d) => some (d, e.set i (.im d))
      | _ => none) = some (d, e') := h
    cases q : e[i]? with
    | none => rw [q] at g'; cases g'
    | some b =>
      rw [q] at g'
      cases b with
      | un => cases g'
      | im x => cases g'; exact ⟨Kept.refl e, rfl⟩
      | ow x => cases g'; exact ⟨Kept.set rfl, List.length_set⟩
      | io x => cases g'
theorem settles_kept : ∀ {rs : List Rv} {e e' : Env'} {ds : List D}, settles e rs = some (ds, e') → Kept e e' ∧ e'.length = e.length
  | [], e, e', ds, h => by cases h; exact ⟨Kept.refl e, rfl⟩
  | r :: rs, e, e', ds, h => by
    unfold settles at h
    cases q : r.settle e with
    | none => rw [q] at h; cases h
    | some x =>
      obtain ⟨d, e1⟩ := x
      rw [q] at h
      cases q2 : settles e1 rs with
      | none => simp only [q2] at h; cases h
      | some y =>
        obtain ⟨ds', e2⟩ := y
        simp only [q2] at h
        cases h
        obtain ⟨k1, l1⟩ := settle_kept q
        obtain ⟨k2, l2⟩ := settles_kept q2
        exact ⟨k1.trans k2, l2.trans l1⟩
mutual
theorem bind_kept : ∀ (t : Tg) (d : D) (e e' : Env'), t.bind d e = some e' → Kept e e' ∧ e'.length = e.length
  | .nm i, d, e, e', h => by
    unfold Tg.bind at h
    cases q : e[i]? with
    | none => rw [q] at h; cases h
    | some b =>
      rw [q] at h
      cases b with
      | io x => cases h
      | un => cases h; exact ⟨Kept.set rfl, List.length_set⟩
      | im x => cases h; exact ⟨Kept.set rfl, List.length_set⟩
      | ow x => cases h; exact ⟨Kept.set rfl, List.length_set⟩
  | .tp ts, .tup ds, e, e', h => binds_kept ts ds e e' (by unfold Tg.bind at h; exact h)
  | .tp ts, .non, e, e', h => by unfold Tg.bind at h; cases h
  | .tp ts, .bl _, e, e', h => by unfold Tg.bind at h; cases h
  | .tp ts, .int _, e, e', h => by unfold Tg.bind at h; cases h
  | .tp ts, .str _, e, e', h => by unfold Tg.bind at h; cases h
  | .tp ts, .lst _, e, e', h => by unfold Tg.bind at h; cases h
  | .tp ts, .dic _ _, e, e', h => by unfold Tg.bind at h; cases h
  | .tp ts, .scr _, e, e', h => by unfold Tg.bind at h; cases h
theorem binds_kept : ∀ (ts : List Tg) (ds : List D) (e e' : Env'), Tg.binds ts ds e = some e' → Kept e e' ∧ e'.length = e.length
  | [], [], e, e', h => by unfold Tg.binds at h; cases h; exact ⟨Kept.refl e, rfl⟩
  | t :: ts, d :: ds, e, e', h => by
    unfold Tg.binds at h
    cases q : t.bind d e with
    | none => rw [q] at h; cases h
    | some e1 =>
      rw [q] at h
      obtain ⟨k1, l1⟩ := bind_kept t d e e1 q
      obtain ⟨k2, l2⟩ := binds_kept ts ds e1 e' h
      exact ⟨k1.trans k2, l2.trans l1⟩
  | [], _ :: _, e, e', h => by unfold Tg.binds at h; cases h
  | _ :: _, [], e, e', h => by unfold Tg.binds at h; cases h
end
theorem lcLoop_kept {vs : List Nat} {f : D → Env' → Option (List D × Env')} (hf : ∀ d e ys e', f d e = some (ys, e') → KeptOff vs e e' ∧ e'.length = e.length) :
    ∀ {ds : List D} {e e' : Env'} {ys : List D}, lcLoop f ds e = some (ys, e') → KeptOff vs e e' ∧ e'.length = e.length
  | [], e, e', ys, h => by cases h; exact ⟨fun i _ b d h q => ⟨b, d, h, q⟩, rfl⟩
  | d :: ds, e, e', ys, h => by
    unfold lcLoop at h
    cases q : f d e with
    | none => rw [q] at h; cases h
    | some x =>
      obtain ⟨a, e1⟩ := x
      rw [q] at h
      cases q2 : lcLoop f ds e1 with
      | none => simp only [q2] at h; cases h
      | some y =>
        obtain ⟨c, e2⟩ := y
        simp only [q2] at h
        cases h
        obtain ⟨k1, l1⟩ := hf d e a e1 q
        obtain ⟨k2, l2⟩ := lcLoop_kept hf q2
        exact ⟨k1.trans k2, l2.trans l1⟩
def KL (e e' : Env') : Prop := Kept e e' ∧ e'.length = e.length
theorem KL.refl (e : Env') : KL e e := ⟨Kept.refl e, rfl⟩
theorem KL.trans {a b c : Env'} (h : KL a b) (g : KL b c) : KL a c := ⟨h.1.trans g.1, g.2.trans h.2⟩
theorem lcTurn_kept {tg : Tg} {vs : List Nat} {t : Env' → Option (Bool × Env')} {f : Env' → Option (Rv × Env')} (ht : ∀ e b e', t e = some (b, e') → KL e e') (hf : ∀ e r e', f e = some (r, e') → KL e e') {d : D} {e e' : Env'} {ys : List D}
    (hq : lcTurn tg vs t f d e = some (ys, e')) : KeptOff vs e e' ∧ e'.length = e.length := by
  unfold lcTurn at hq
  split at hq
  · rename_i e3 h3
    have k3 := bind_kept tg d _ _ h3
    split at hq
    · rename_i e4 h4
      have k4 := ht _ _ _ h4
      split at hq
      · rename_i r5 e5 h5
        have k5 := hf _ _ _ h5
        split at hq
        · rename_i y e6 h6
          cases hq
          have k6 := settle_kept h6
          have kk := (((show KL _ _ from k3).trans k4).trans k5).trans k6
          exact ⟨(kk.1.off vs).trans (wipeE_kept vs), by rw [wipeE_len]; exact kk.2⟩
        · cases hq
      · cases hq
    · rename_i e4 h4
      cases hq
      have kk := (show KL _ _ from k3).trans (ht _ _ _ h4)
      exact ⟨(kk.1.off vs).trans (wipeE_kept vs), by rw [wipeE_len]; exact kk.2⟩
    · cases hq
  · cases hq
mutual
theorem ev_kept : ∀ (x : Ex) (e e' : Env') (r : Rv), ev x e = some (r, e') → KL e e'
  | .cst d, e, e', r, h => by unfold ev at h; cases h; exact KL.refl e
  | .var i, e, e', r, h => by
    unfold ev at h
    split at h <;> cases h <;> exact KL.refl e
  | .op f as, e, e', r, h => by
    unfold ev at h
    split at h
    · rename_i rs e1 q
      split at h
      · split at h
        · cases h; exact evs_kept as _ _ _ q
        · cases h
      · cases h
    · cases h
  | .mk f as, e, e', r, h => by
    unfold ev at h
    split at h
    · rename_i rs e1 q
      split at h
      · rename_i ds e2 q2
        split at h
        · cases h; exact (evs_kept as _ _ _ q).trans (settles_kept q2)
        · cases h
      · cases h
    · cases h
  | .call f as, e, e', r, h => by
    unfold ev at h
    split at h
    · rename_i rs e1 q
      split at h
      · rename_i ds e2 q2
        split at h
        · cases h; exact (evs_kept as _ _ _ q).trans (settles_kept q2)
        · cases h
      · cases h
    · cases h
  | .callO f i as, e, e', r, h => by
    unfold ev at h
    split at h
    · split at h
      · rename_i rs e1 q
        split at h
        · rename_i ds e2 q2
          split at h
          · split at h
            · cases h; exact ((evs_kept as _ _ _ q).trans (settles_kept q2)).trans ⟨Kept.set rfl, List.length_set⟩
            · cases h
          · split at h
            · cases h; exact ((evs_kept as _ _ _ q).trans (settles_kept q2)).trans ⟨Kept.set rfl, List.length_set⟩
            · cases h
          · cases h
        · cases h
      · cases h
    · cases h
  | .callB f as, e, e', r, h => by
    unfold ev at h
    split at h
    · rename_i rs e1 q
      split at h
      · split at h
        · split at h
          · cases h; exact evs_kept as _ _ _ q
          · cases h
        · cases h
      · cases h
    · cases h
  | .and_ a b, e, e', r, h => by
    unfold ev at h
    split at h
    · rename_i ra e1 q
      split at h
      · split at h
        · exact (ev_kept a _ _ _ q).trans (ev_kept b e1 e' r h)
        · cases h; exact ev_kept a _ _ _ q
        · cases h
      · cases h
    · cases h
  | .or_ a b, e, e', r, h => by
    unfold ev at h
    split at h
    · rename_i ra e1 q
      split at h
      · split at h
        · exact (ev_kept a _ _ _ q).trans (ev_kept b e1 e' r h)
        · cases h; exact ev_kept a _ _ _ q
        · cases h
      · cases h
    · cases h
  | .ite c a b, e, e', r, h => by
    unfold ev at h
    split at h
    · rename_i ra e1 q
      split at h
      · split at h
        · exact (ev_kept c _ _ _ q).trans (ev_kept a e1 e' r h)
        · exact (ev_kept c _ _ _ q).trans (ev_kept b e1 e' r h)
        · cases h
      · cases h
    · cases h
  | .chain f g a b c, e, e', r, h => by
    unfold ev at h
    split at h
    · rename_i ra e1 q
      split at h
      · rename_i rb e2 q2
        have k := (ev_kept a _ _ _ q).trans (ev_kept b _ _ _ q2)
        split at h
        · split at h
          · split at h
            · rename_i rc e3 q3
              split at h
              · split at h
                · cases h; exact k.trans (ev_kept c _ _ _ q3)
                · cases h
              · cases h
            · cases h
          · cases h; exact k
          · cases h
        · cases h
      · cases h
    · cases h
  | .lc g as vs tg cs elt, e, e', r, h => by
    unfold ev at h
    split at h
    · rename_i rs e1 q
      split at h
      · rename_i ds e2 q2
        have k := (evs_kept as _ _ _ q).trans (settles_kept q2)
        split at h
        · split at h
          · rename_i hs
            split at h
            · rename_i ys e7 q3
              split at h
              · cases h
                have kl : KeptOff vs (wipeE e2 vs) e7 ∧ e7.length = (wipeE e2 vs).length := lcLoop_kept (vs := vs) (fun d ea ya eb hq => lcTurn_kept (fun e1 b e2 h => evt_kept cs _ _ _ h) (fun e1 r e2 h => ev_kept elt _ _ _ h) hq) q3
                have ll : e2.length = e7.length := by rw [kl.2, wipeE_len]
                refine k.trans ⟨fun i b d hb hd => ?_, by rw [backE_len]; exact ll.symm⟩
                by_cases hi : i ∈ vs
                · exact ⟨b, d, backE_in ll hi hb, hd⟩
                · obtain ⟨b', d', h1, h2⟩ := ((wipeE_kept vs).trans kl.1) i hi b d hb hd
                  exact ⟨b', d', by rw [backE_off hi]; exact h1, h2⟩
              · cases h
            · cases h
          · cases h
        · cases h
      · cases h
    · cases h
  | .lc2 g as vs tg g2 as2 tg2 cs elt, e, e', r, h => by unfold ev at h; cases h
theorem evs_kept : ∀ (xs : List Ex) (e e' : Env') (rs : List Rv), evs xs e = some (rs, e') → KL e e'
  | [], e, e', rs, h => by unfold evs at h; cases h; exact KL.refl e
  | a :: as, e, e', rs, h => by
    unfold evs at h
    split at h
    · rename_i r e1 q
      split at h
      · rename_i rs2 e2 q2
        cases h
        exact (ev_kept a _ _ _ q).trans (evs_kept as _ _ _ q2)
      · cases h
    · cases h
theorem evt_kept : ∀ (xs : List Ex) (e e' : Env') (b : Bool), evt xs e = some (b, e') → KL e e'
  | [], e, e', b, h => by unfold evt at h; cases h; exact KL.refl e
  | c :: _, e, e', b, h => by
    unfold evt at h
    split at h
    · rename_i r e1 q
      split at h
      · split at h
        · cases h; exact ev_kept c _ _ _ q
        · cases h
      · cases h
    · cases h
end
/-! ### what an expression's run wants -/
def tE (C : Cfg) (x : Ex) : TE := fun σ H Q => ∃ (F G0 G : Hp) (pn : Option (Nat × Addr)) (e : Env') (r : Rv) (e' : Env'), Rel C F G0 G H pn σ e ∧ ev x e = some (r, e') ∧
  ∀ v G' H', Rel C F G0 G' H' pn σ e' → Same G G' → RepR C.K G' σ e' r v → Q v H'
def tA (C : Cfg) (xs : List Ex) : TA := fun σ H Q => ∃ (F G0 G : Hp) (pn : Option (Nat × Addr)) (e : Env') (rs : List Rv) (e' : Env'), Rel C F G0 G H pn σ e ∧ evs xs e = some (rs, e') ∧
  ∀ vs G' H', Rel C F G0 G' H' pn σ e' → Same G G' → RepRs C.K G' σ e' rs vs → Q vs H'
def tT (C : Cfg) (x : Ex) : TT := fun σ H Q => ∃ (F G0 G : Hp) (pn : Option (Nat × Addr)) (e : Env') (r : Rv) (e' : Env') (d : D) (b : Bool), Rel C F G0 G H pn σ e ∧ ev x e = some (r, e') ∧ r.get e' = some d ∧ truth d = some b ∧
  ∀ G' H', Rel C F G0 G' H' pn σ e' → Same G G' → Q b H'
/-- .. of a thing that nobody else knows -/
def tF (C : Cfg) (x : Ex) : TE := fun σ H Q => ∃ (F G0 G : Hp) (pn : Option (Nat × Addr)) (e : Env') (d : D) (e' : Env'), Rel C F G0 G H pn σ e ∧ ev x e = some (.pers d, e') ∧
  ∀ p o G' H', Rel C F G0 G' H' pn σ e' → Same G G' → G' p = none → F p = none → p ∉ C.tt → (∀ i, ¬ Own σ e' i p) → H' p = some o → RepO C.K G' o d → Q (.ref p) H'
section
variable {X : Cx} {C : Cfg}
theorem _root_.L2.PE.imp {e : Expr} {t t' : TE} (h : PE X e t) (k : ∀ σ H Q, t' σ H Q → t σ H Q) : PE X e t' := ⟨fun pins s σ H Q I q => h.run pins s σ H Q I (k σ H Q q)⟩
theorem _root_.L2.PT.imp {e : Expr} {t t' : TT} (h : PT X e t) (k : ∀ σ H Q, t' σ H Q → t σ H Q) : PT X e t' := ⟨fun pins s σ H Q I q => h.run pins s σ H Q I (k σ H Q q)⟩
theorem _root_.L2.PW.imp {e : Expr} {t t' : TT} (h : PW X e t) (k : ∀ σ H Q, t' σ H Q → t σ H Q) : PW X e t' := ⟨fun w pins s σ H Q I q => h.run w pins s σ H Q I (k σ H Q q)⟩
theorem _root_.L2.PA.imp {e : List Expr} {t t' : TA} (h : PA X e t) (k : ∀ σ H Q, t' σ H Q → t σ H Q) : PA X e t' := ⟨fun pos pins s σ H Q I q => h.run pos pins s σ H Q I (k σ H Q q)⟩
theorem _root_.L2.PS.imp {e : Stmt} {t t' : TS} (h : PS X e t) (k : ∀ D σ H, t' D σ H → t D σ H) : PS X e t' := ⟨fun pins s σ H D I q => h.run pins s σ H D I (k D σ H q)⟩
theorem _root_.L2.PSs.imp {e : List Stmt} {t t' : TS} (h : PSs X e t) (k : ∀ D σ H, t' D σ H → t D σ H) : PSs X e t' := ⟨fun pins s σ H D I q => h.run pins s σ H D I (k D σ H q)⟩
/-- a thing that nobody else knows is, too, one that all know -/
theorem tF_tE {x : Ex} {σ : St} {H : Hp} {Q : VK} (h : tE C x σ H Q) (hx : ∀ e r e', ev x e = some (r, e') → ∃ d, r = .pers d) : tF C x σ H Q := by
  obtain ⟨F, G0, G, pn, e, r, e', R, he, k⟩ := h
  obtain ⟨d, rfl⟩ := hx e r e' he
  refine ⟨F, G0, G, pn, e, d, e', R, he, fun p o G' H' R' s g1 f1 t1 o1 h1 r1 => ?_⟩
  have s2 : Same G' (upd G' p o) := fun b u hb => by rw [upd_ne (ne_of_none hb g1)]; exact hb
  have gh2 : Same (upd G' p o) H' := fun b u hb => by
    by_cases z : b = p
    · rw [z, upd_same] at hb; rw [z, h1]; exact hb
    · rw [upd_ne z] at hb; exact R'.gh b u hb
  have R2 : Rel C F G0 (upd G' p o) H' pn σ e' := by
    refine ⟨R'.fh, gh2, fun b hb => ?_, fun P hP => ⟨(R'.tb P hP).1, ?_, (R'.tb P hP).2.2⟩, fun i b hb => ?_, R'.ap, R'.pi, R'.ln⟩
    · rw [upd_ne (fun z => hb (by rw [z]; exact f1))]; exact R'.gf b hb
    · rw [upd_ne (fun z => t1 (by rw [← z]; exact hP))]; exact (R'.tb P hP).2.1
    · have q := R'.sl i b hb
      cases b with
      | un => trivial
      | im d' =>
        obtain ⟨v, k1, k2⟩ := q
        exact ⟨v, k1, k2.mono s2⟩
      | ow d' =>
        obtain ⟨p', o', k0, k1, k2, k3, k4, k5⟩ := q
        exact ⟨p', o', k0, by rw [upd_ne (fun z => o1 i (by rw [← z]; exact ⟨k0, _, hb, rfl⟩))]; exact k1, k2, k3, k4, k5.mono s2⟩
      | io d' =>
        obtain ⟨p', o', k0, k1, k2, k3, k4, k5⟩ := q
        exact ⟨p', o', k0, by rw [upd_ne (fun z => o1 i (by rw [← z]; exact ⟨k0, _, hb, rfl⟩))]; exact k1, k2, k3, k4, k5.mono s2⟩
  refine k (.ref p) (upd G' p o) H' R2 (s.trans s2) ?_
  cases r1 with
  | lst r => exact .lst upd_same (r.mono s2)
  | dK e r => exact .dK upd_same e (r.mono s2)
  | dT e r => exact .dT upd_same e (r.mono s2)
/-! ### names, constants, argument lists -/
theorem ce_var {i : Nat} {x : Str} {pos : Pos} (h : PE X (.Name x pos) (tVar i)) : PE X (.Name x pos) (tE C (.var i)) := h.imp fun σ H Q q => by
  obtain ⟨F, G0, G, pn, e, r, e', R, he, k⟩ := q
  unfold ev at he
  cases q : e[i]? with
  | none => rw [q] at he; cases he
  | some b =>
    rw [q] at he
    have sl := R.sl i b q
    cases b with
    | un => cases he
    | im d =>
      cases he
      obtain ⟨v, h1, h2⟩ := sl
      exact ⟨v, h1, k v G H R (Same.refl G) h2⟩
    | ow d =>
      cases he
      obtain ⟨p, o, h1, _⟩ := sl
      exact ⟨.ref p, h1, k (.ref p) G H R (Same.refl G) ⟨h1, _, _, q, rfl⟩⟩
    | io d =>
      cases he
      obtain ⟨p, o, h1, _⟩ := sl
      exact ⟨.ref p, h1, k (.ref p) G H R (Same.refl G) ⟨h1, _, _, q, rfl⟩⟩
theorem tC_tE {v : V} {d : D} (h : ∀ G, Rep C.K G v d) (σ : St) (H : Hp) (Q : VK) (q : tE C (.cst d) σ H Q) : tC v σ H Q := by
  obtain ⟨F, G0, G, pn, e, r, e', R, he, k⟩ := q
  unfold ev at he
  cases he
  exact k v G H R (Same.refl G) (h G)
theorem ce_c {a : Expr} {v : V} {d : D} (h : PE X a (tC v)) (r : ∀ G, Rep C.K G v d) : PE X a (tE C (.cst d)) := h.imp (tC_tE r)
theorem ce_int {i : Int} {j : Nat} {pos : Pos} : PE X (.Constant (.int i) j pos) (tE C (.cst (.int i))) := ce_c pe_int fun _ => .int i
theorem ce_bl {b : Bool} {j : Nat} {pos : Pos} : PE X (.Constant (.bool b) j pos) (tE C (.cst (.bl b))) := ce_c pe_bl fun _ => .bl b
theorem ce_non {j : Nat} {pos : Pos} : PE X (.Constant .none j pos) (tE C (.cst .non)) := ce_c pe_non fun _ => .non
theorem ce_str {x : Str} {s : List Nat} {j : Nat} {pos : Pos} (hx : x = ⟨s.toArray⟩) : PE X (.Constant (.str x) j pos) (tE C (.cst (.str s))) := ce_c (v := .str x) pe_str fun _ => by rw [hx]; exact .str s
theorem ca_nil : PA X [] (tA C []) := pa_nil.imp fun σ H Q q => by
  obtain ⟨F, G0, G, pn, e, rs, e', R, he, k⟩ := q
  unfold evs at he
  cases he
  exact k [] G H R (Same.refl G) .nil
theorem tA_cons {x : Ex} {xs : List Ex} {σ : St} {H : Hp} {Q : List V → Hp → Prop} (q : tA C (x :: xs) σ H Q) : tE C x σ H fun v H1 => tA C xs σ H1 fun vs H2 => Q (v :: vs) H2 := by
  obtain ⟨F, G0, G, pn, e, rs, e', R, he, k⟩ := q
  unfold evs at he
  split at he
  · rename_i r e1 q1
    split at he
    · rename_i rs2 e2 q2
      cases he
      refine ⟨F, G0, G, pn, e, r, e1, R, q1, fun v G1 H1 R1 s1 r1 => ⟨F, G0, G1, pn, e1, rs2, e', R1, q2, fun vs G2 H2 R2 s2 r2 => ?_⟩⟩
      exact k (v :: vs) G2 H2 R2 (s1.trans s2) (.cons ((r1.mono s2).env (evs_kept xs _ _ _ q2).1) r2)
    · cases he
  · cases he
theorem ca_cons {a : Expr} {as : List Expr} {x : Ex} {xs : List Ex} (ha : PE X a (tE C x)) (hr : PA X as (tA C xs)) (hs : starEach (a :: as) X.env = (false, eval a X.env) :: starEach as X.env := by rfl) : PA X (a :: as) (tA C (x :: xs)) :=
  (pa_cons ha hr hs).imp fun σ H Q q => tA_cons q
/-! ### operations -/
def OkN (C : Cfg) (r : List V → Hp → VK → Prop) (f : List D → Option D) : Prop := ∀ (vs : List V) (ds : List D) (d : D) (G H : Hp) (Q : VK), Same G H → (∀ P ∈ C.tt, TabG H P) → RepTs C.K G H vs ds → f ds = some d →
  (∀ v G' H', Grow C G H G' H' → Rep C.K G' v d → Q v H') → r vs H Q
def OkNF (C : Cfg) (r : List V → Hp → VK → Prop) (f : List D → Option D) : Prop := ∀ (vs : List V) (ds : List D) (d : D) (G H : Hp) (Q : VK), Same G H → (∀ P ∈ C.tt, TabG H P) → RepTs C.K G H vs ds → f ds = some d →
  (∀ p o, H p = none → RepO C.K G o d → Q (.ref p) (upd H p o)) → r vs H Q
def OkM (C : Cfg) (r : List V → Hp → VK → Prop) (f : List D → Option D) : Prop := ∀ (vs : List V) (ds : List D) (d : D) (G H : Hp) (Q : VK), Same G H → (∀ P ∈ C.tt, TabG H P) → RepL C.K G vs ds → f ds = some d →
  (∀ v G' H', Grow C G H G' H' → Rep C.K G' v d → Q v H') → r vs H Q
def OkMF (C : Cfg) (r : List V → Hp → VK → Prop) (f : List D → Option D) : Prop := ∀ (vs : List V) (ds : List D) (d : D) (G H : Hp) (Q : VK), Same G H → (∀ P ∈ C.tt, TabG H P) → RepL C.K G vs ds → f ds = some d →
  (∀ p o, H p = none → RepO C.K G o d → Q (.ref p) (upd H p o)) → r vs H Q
def Ok2 (C : Cfg) (r : R2) (f : List D → Option D) : Prop := ∀ (x y : V) (a b d : D) (G H : Hp) (Q : VK), Same G H → (∀ P ∈ C.tt, TabG H P) → RepT C.K G H x a → RepT C.K G H y b → f [a, b] = some d →
  (∀ v G' H', Grow C G H G' H' → Rep C.K G' v d → Q v H') → r x y H Q
def Ok2F (C : Cfg) (r : R2) (f : List D → Option D) : Prop := ∀ (x y : V) (a b d : D) (G H : Hp) (Q : VK), Same G H → (∀ P ∈ C.tt, TabG H P) → RepT C.K G H x a → RepT C.K G H y b → f [a, b] = some d →
  (∀ p o, H p = none → RepO C.K G o d → Q (.ref p) (upd H p o)) → r x y H Q
theorem known_of_new {G H : Hp} {Q : VK} {d : D} (s : Same G H) (t : ∀ P ∈ C.tt, TabG H P) (k : ∀ v G' H', Grow C G H G' H' → Rep C.K G' v d → Q v H') : ∀ p o, H p = none → RepO C.K G o d → Q (.ref p) (upd H p o) := fun p o hp r => by
  have gp := s.free hp
  have s2 : Same G (upd G p o) := fun b u hb => by rw [upd_ne (ne_of_none hb gp)]; exact hb
  refine k (.ref p) (upd G p o) (upd H p o) (grow_new s t hp) ?_
  cases r with
  | lst r => exact .lst upd_same (r.mono s2)
  | dK e r => exact .dK upd_same e (r.mono s2)
  | dT e r => exact .dT upd_same e (r.mono s2)
theorem OkNF.ok {r : List V → Hp → VK → Prop} {f : List D → Option D} (h : OkNF C r f) : OkN C r f := fun vs ds d G H Q s t rr e k => h vs ds d G H Q s t rr e (known_of_new s t k)
theorem OkMF.ok {r : List V → Hp → VK → Prop} {f : List D → Option D} (h : OkMF C r f) : OkM C r f := fun vs ds d G H Q s t rr e k => h vs ds d G H Q s t rr e (known_of_new s t k)
theorem Ok2F.ok {r : R2} {f : List D → Option D} (h : Ok2F C r f) : Ok2 C r f := fun x y a b d G H Q s t r1 r2 e k => h x y a b d G H Q s t r1 r2 e (known_of_new s t k)
theorem own_of_new {F G0 G H : Hp} {pn : Option (Nat × Addr)} {σ : St} {e' : Env'} {Q : VK} {d : D} {G1 : Hp} (R1 : Rel C F G0 G1 H pn σ e') (s1 : Same G G1)
    (k : ∀ p o G' H', Rel C F G0 G' H' pn σ e' → Same G G' → G' p = none → F p = none → p ∉ C.tt → (∀ i, ¬ Own σ e' i p) → H' p = some o → RepO C.K G' o d → Q (.ref p) H') :
    ∀ p o, H p = none → RepO C.K G1 o d → Q (.ref p) (upd H p o) := fun p o hp r => by
  refine k p o G1 (upd H p o) (R1.grow (grow_own R1.gh R1.tabs hp)) s1 (R1.gh.free hp) (R1.fh.free hp) (fun z => tabG_some (R1.tb p z).1 hp) (fun i ⟨h1, b, h2, h3⟩ => ?_) upd_same r
  have q := R1.sl i b h2
  cases b with
  | un => cases h3
  | im d => cases h3
  | ow d =>
    obtain ⟨p', o', k0, _, _, _, k4, _⟩ := q
    rw [h1] at k0
    cases k0
    rw [hp] at k4
    cases k4
  | io d =>
    obtain ⟨p', o', k0, _, _, _, k4, _⟩ := q
    rw [h1] at k0
    cases k0
    rw [hp] at k4
    cases k4
theorem ev_op {f : List D → Option D} {xs : List Ex} {e e' : Env'} {r : Rv} (h : ev (.op f xs) e = some (r, e')) : ∃ rs ds d, evs xs e = some (rs, e') ∧ gets e' rs = some ds ∧ f ds = some d ∧ r = .pers d := by
  unfold ev at h
  split at h
  · rename_i rs e1 q
    split at h
    · rename_i ds q2
      split at h
      · rename_i d q3
        cases h
        exact ⟨rs, ds, d, q, q2, q3, rfl⟩
      · cases h
    · cases h
  · cases h
theorem ev_mk {f : List D → Option D} {xs : List Ex} {e e' : Env'} {r : Rv} (h : ev (.mk f xs) e = some (r, e')) : ∃ rs e1 ds d, evs xs e = some (rs, e1) ∧ settles e1 rs = some (ds, e') ∧ f ds = some d ∧ r = .pers d := by
  unfold ev at h
  split at h
  · rename_i rs e1 q
    split at h
    · rename_i ds e2 q2
      split at h
      · rename_i d q3
        cases h
        exact ⟨rs, e1, ds, d, q, q2, q3, rfl⟩
      · cases h
    · cases h
  · cases h
theorem tE_op {r : List V → Hp → VK → Prop} {f : List D → Option D} (ok : OkN C r f) {xs : List Ex} {σ : St} {H : Hp} {Q : VK} (q : tE C (.op f xs) σ H Q) : tA C xs σ H fun vs H1 => r vs H1 Q := by
  obtain ⟨F, G0, G, pn, e, rr, e', R, he, k⟩ := q
  obtain ⟨rs, ds, d, q1, q2, q3, rfl⟩ := ev_op he
  exact ⟨F, G0, G, pn, e, rs, e', R, q1, fun vs G1 H1 R1 s1 r1 => ok vs ds d G1 H1 Q R1.gh R1.tabs (R1.gets r1 q2) q3 fun v G2 H2 g rv => k v G2 H2 (R1.grow g) (s1.trans g.gg) rv⟩
theorem tF_op {r : List V → Hp → VK → Prop} {f : List D → Option D} (ok : OkNF C r f) {xs : List Ex} {σ : St} {H : Hp} {Q : VK} (q : tF C (.op f xs) σ H Q) : tA C xs σ H fun vs H1 => r vs H1 Q := by
  obtain ⟨F, G0, G, pn, e, d0, e', R, he, k⟩ := q
  obtain ⟨rs, ds, d, q1, q2, q3, q4⟩ := ev_op he
  cases q4
  exact ⟨F, G0, G, pn, e, rs, e', R, q1, fun vs G1 H1 R1 s1 r1 => ok vs ds _ G1 H1 Q R1.gh R1.tabs (R1.gets r1 q2) q3 (own_of_new R1 s1 k)⟩
theorem tE_mk {r : List V → Hp → VK → Prop} {f : List D → Option D} (ok : OkM C r f) {xs : List Ex} {σ : St} {H : Hp} {Q : VK} (q : tE C (.mk f xs) σ H Q) : tA C xs σ H fun vs H1 => r vs H1 Q := by
  obtain ⟨F, G0, G, pn, e, rr, e', R, he, k⟩ := q
  obtain ⟨rs, e1, ds, d, q1, q2, q3, rfl⟩ := ev_mk he
  refine ⟨F, G0, G, pn, e, rs, e1, R, q1, fun vs G1 H1 R1 s1 r1 => ?_⟩
  obtain ⟨G2, s2, R2, r2, _⟩ := Rel.settles R1 r1 q2
  exact ok vs ds d G2 H1 Q R2.gh R2.tabs r2 q3 fun v G3 H3 g rv => k v G3 H3 (R2.grow g) ((s1.trans s2).trans g.gg) rv
theorem tF_mk {r : List V → Hp → VK → Prop} {f : List D → Option D} (ok : OkMF C r f) {xs : List Ex} {σ : St} {H : Hp} {Q : VK} (q : tF C (.mk f xs) σ H Q) : tA C xs σ H fun vs H1 => r vs H1 Q := by
  obtain ⟨F, G0, G, pn, e, d0, e', R, he, k⟩ := q
  obtain ⟨rs, e1, ds, d, q1, q2, q3, q4⟩ := ev_mk he
  cases q4
  refine ⟨F, G0, G, pn, e, rs, e1, R, q1, fun vs G1 H1 R1 s1 r1 => ?_⟩
  obtain ⟨G2, s2, R2, r2, _⟩ := Rel.settles R1 r1 q2
  exact ok vs ds _ G2 H1 Q R2.gh R2.tabs r2 q3 (own_of_new R2 (s1.trans s2) k)
theorem tA_two {x y : Ex} {σ : St} {H : Hp} {P : V → V → Hp → Prop} (q : tA C [x, y] σ H fun vs H1 => ∃ a b, vs = [a, b] ∧ P a b H1) : tE C x σ H fun a H1 => tE C y σ H1 fun b H2 => P a b H2 := by
  obtain ⟨F, G0, G, pn, e, rs, e', R, he, k⟩ := q
  unfold evs at he
  split at he
  · rename_i r e1 q1
    split at he
    · rename_i rs2 e2 q2
      cases he
      unfold evs at q2
      split at q2
      · rename_i r2 e3 q3
        unfold evs at q2
        cases q2
        refine ⟨F, G0, G, pn, e, r, e1, R, q1, fun v G1 H1 R1 s1 r1 => ⟨F, G0, G1, pn, e1, r2, _, R1, q3, fun w G2 H2 R2 s2 r3 => ?_⟩⟩
        obtain ⟨a, b, e4, p⟩ := k [v, w] G2 H2 R2 (s1.trans s2) (.cons ((r1.mono s2).env (ev_kept y _ _ _ q3).1) (.cons r3 .nil))
        cases e4
        exact p
      · cases q2
    · cases he
  · cases he
theorem Ok2.n {r : R2} {f : List D → Option D} (h : Ok2 C r f) (hf : ∀ ds d, f ds = some d → ds.length = 2 := by intro ds d e; first | (match ds, e with | [_, _], _ => rfl)) : OkN C (fun vs H Q => ∃ a b, vs = [a, b] ∧ r a b H Q) f := fun vs ds d G H Q s t rr e k => by
  have hl := hf ds d e
  cases rr with
  | nil => cases hl
  | cons r1 rr =>
    cases rr with
    | nil => cases hl
    | cons r2 rr =>
      cases rr with
      | cons r3 rr => simp at hl
      | nil => exact ⟨_, _, rfl, h _ _ _ _ d G H Q s t r1 r2 e k⟩
theorem Ok2F.n {r : R2} {f : List D → Option D} (h : Ok2F C r f) (hf : ∀ ds d, f ds = some d → ds.length = 2) : OkNF C (fun vs H Q => ∃ a b, vs = [a, b] ∧ r a b H Q) f := fun vs ds d G H Q s t rr e k => by
  have hl := hf ds d e
  cases rr with
  | nil => cases hl
  | cons r1 rr =>
    cases rr with
    | nil => cases hl
    | cons r2 rr =>
      cases rr with
      | cons r3 rr => simp at hl
      | nil => exact ⟨_, _, rfl, h _ _ _ _ d G H Q s t r1 r2 e k⟩
/-- f wants two values -/
def Two (f : List D → Option D) : Prop := ∀ ds d, f ds = some d → ds.length = 2
theorem tOp_of {r : R2} {f : List D → Option D} (ok : Ok2 C r f) (hf : Two f) {x y : Ex} {σ : St} {H : Hp} {Q : VK} (q : tE C (.op f [x, y]) σ H Q) : tOp r (tE C x) (tE C y) σ H Q := tA_two (tE_op (ok.n hf) q)
theorem tOpF_of {r : R2} {f : List D → Option D} (ok : Ok2F C r f) (hf : Two f) {x y : Ex} {σ : St} {H : Hp} {Q : VK} (q : tF C (.op f [x, y]) σ H Q) : tOp r (tE C x) (tE C y) σ H Q := tA_two (tF_op (ok.n hf) q)
variable {a b c : Expr} {x y z : Ex} {pos : Pos}
theorem ce_bin {op : Operator} {r : R2} {f : List D → Option D} (ho : OpR X (binaryOp op) r) (ok : Ok2 C r f) (hf : Two f) (ha : PE X a (tE C x)) (hb : PE X b (tE C y)) : PE X (.BinOp a op b pos) (tE C (.op f [x, y])) :=
  (pe_op ho ha hb).imp fun σ H Q q => tOp_of ok hf q
theorem cf_bin {op : Operator} {r : R2} {f : List D → Option D} (ho : OpR X (binaryOp op) r) (ok : Ok2F C r f) (hf : Two f) (ha : PE X a (tE C x)) (hb : PE X b (tE C y)) : PE X (.BinOp a op b pos) (tF C (.op f [x, y])) :=
  (pe_op ho ha hb).imp fun σ H Q q => tOpF_of ok hf q
theorem ce_cmp {op : CmpOp} {r : R2} {f : List D → Option D} (ho : OpR X (compareOp op) r) (ok : Ok2 C r f) (hf : Two f) (ha : PE X a (tE C x)) (hb : PE X b (tE C y)) (hm : behindInMarks op b = false) : PE X (.Compare a [op] [b] pos) (tE C (.op f [x, y])) :=
  (pe_cmpR ho ha hb hm).imp fun σ H Q q => tOp_of ok hf q
/-- the test's answer is a bool -/
theorem tTest_of {t : TE} {x : Ex} {σ : St} {H : Hp} {Q : Bool → Hp → Prop} (himp : ∀ Q : VK, tE C x σ H Q → t σ H Q) (hx : ∀ e r e', ev x e = some (r, e') → ∃ k, r = .pers (.bl k)) (q : tT C x σ H Q) : tTest t σ H Q := by
  obtain ⟨F, G0, G, pn, e, r, e', d, bb, R, he, hg, ht, k⟩ := q
  obtain ⟨kk, rfl⟩ := hx e r e' he
  cases hg
  cases ht
  exact himp _ ⟨F, G0, G, pn, e, _, e', R, he, fun v G' H' R' s rv => ⟨_, by cases rv; rfl, k G' H' R' s⟩⟩
/-- f answers a bool -/
def Boo (f : List D → Option D) : Prop := ∀ ds d, f ds = some d → ∃ k, d = .bl k
theorem op_boo {f : List D → Option D} (hf : Boo f) {xs : List Ex} : ∀ e r e', ev (.op f xs) e = some (r, e') → ∃ k, r = .pers (.bl k) := fun e r e' h => by
  obtain ⟨rs, ds, d, q1, q2, q3, rfl⟩ := ev_op h
  obtain ⟨k, rfl⟩ := hf ds d q3
  exact ⟨k, rfl⟩
theorem ct_cmp {op : CmpOp} {r : R2} {f : List D → Option D} (ho : OpR X (compareOp op) r) (ok : Ok2 C r f) (hf : Two f) (hb2 : Boo f) (ha : PE X a (tE C x)) (hb : PE X b (tE C y)) (hm : behindInMarks op b = false) : PT X (.Compare a [op] [b] pos) (tT C (.op f [x, y])) :=
  (pt_cmpR ho ha hb hm).imp fun σ H Q q => tTest_of (fun Q q => tOp_of ok hf q) (op_boo hb2) q
theorem tUn_of {r : V → Hp → VK → Prop} {f : List D → Option D} (ok : OkN C (fun vs H Q => ∃ a, vs = [a] ∧ r a H Q) f) {x : Ex} {σ : St} {H : Hp} {Q : VK} (q : tE C (.op f [x]) σ H Q) : tUn r (tE C x) σ H Q := by
  obtain ⟨F, G0, G, pn, e, rs, e', R, he, k⟩ := tE_op ok q
  unfold evs at he
  split at he
  · rename_i r1 e1 q1
    unfold evs at he
    cases he
    refine ⟨F, G0, G, pn, e, r1, _, R, q1, fun v G1 H1 R1 s1 r2 => ?_⟩
    obtain ⟨a, e4, p⟩ := k [v] G1 H1 R1 s1 (.cons r2 .nil)
    cases e4
    exact p
  · cases he
theorem ce_un {op : UnaryOp} {r : V → Hp → VK → Prop} {f : List D → Option D} (ho : UnR X (unaryOp op) r) (ok : OkN C (fun vs H Q => ∃ a, vs = [a] ∧ r a H Q) f) (ha : PE X a (tE C x)) : PE X (.UnaryOp op a pos) (tE C (.op f [x])) :=
  (pe_un ho ha).imp fun σ H Q q => tUn_of ok q
theorem ce_ix {r : R2} {f : List D → Option D} (hr : IxR X r) (ok : Ok2 C r f) (hf : Two f) (ha : PE X a (tE C x)) (hb : PE X b (tE C y)) (hs : PlainIx b) : PE X (.Subscript a b pos) (tE C (.op f [x, y])) :=
  (pe_ix hr ha hb hs).imp fun σ H Q q => tOp_of ok hf q
/-- built-in functions and types -/
theorem ce_callB {id : String} {r : List V → Hp → VK → Prop} {f : List D → Option D} {nm : Str} {p : Pos} {es : List Expr} {xs : List Ex} (hc : CallR X (.builtin id) r) (ok : OkN C r f) (hg : Gl X nm) (hm : X.mg nm = none) (hv : bootBuiltins nm = some (.builtin id)) (ha : PA X (a :: es) (tA C xs))
    (hn : nm ≠ "__name__" := by decide) (hdb : (nm == ("__debug__" : Str)) = false := by decide)
    (he : starEach (a :: es) X.env = (false, eval a X.env) :: starEach es X.env := by rfl) (hpl : (backTo pos (starEach es X.env)).any (·.1) = false := by rfl) : PE X (.Call (.Name nm p) (a :: es) [] pos) (tE C (.op f xs)) :=
  (pe_callB hc hg hm hv ha hn hdb he hpl).imp fun σ H Q q => tE_op ok q
theorem ce_callTy {T : String} {r : List V → Hp → VK → Prop} {f : List D → Option D} {nm : Str} {p : Pos} {es : List Expr} {xs : List Ex} (hc : CallR X (.type T) r) (ok : OkN C r f) (hg : Gl X nm) (hm : X.mg nm = none) (hv : bootBuiltins nm = some (.type T)) (ha : PA X (a :: es) (tA C xs))
    (hn : nm ≠ "__name__" := by decide) (hdb : (nm == ("__debug__" : Str)) = false := by decide)
    (he : starEach (a :: es) X.env = (false, eval a X.env) :: starEach es X.env := by rfl) (hpl : (backTo pos (starEach es X.env)).any (·.1) = false := by rfl) : PE X (.Call (.Name nm p) (a :: es) [] pos) (tE C (.op f xs)) :=
  (pe_callTy hc hg hm hv ha hn hdb he hpl).imp fun σ H Q q => tE_op ok q
theorem cf_callB {id : String} {r : List V → Hp → VK → Prop} {f : List D → Option D} {nm : Str} {p : Pos} {es : List Expr} {xs : List Ex} (hc : CallR X (.builtin id) r) (ok : OkNF C r f) (hg : Gl X nm) (hm : X.mg nm = none) (hv : bootBuiltins nm = some (.builtin id)) (ha : PA X (a :: es) (tA C xs))
    (hn : nm ≠ "__name__" := by decide) (hdb : (nm == ("__debug__" : Str)) = false := by decide)
    (he : starEach (a :: es) X.env = (false, eval a X.env) :: starEach es X.env := by rfl) (hpl : (backTo pos (starEach es X.env)).any (·.1) = false := by rfl) : PE X (.Call (.Name nm p) (a :: es) [] pos) (tF C (.op f xs)) :=
  (pe_callB hc hg hm hv ha hn hdb he hpl).imp fun σ H Q q => tF_op ok q
theorem cf_callTy {T : String} {r : List V → Hp → VK → Prop} {f : List D → Option D} {nm : Str} {p : Pos} {es : List Expr} {xs : List Ex} (hc : CallR X (.type T) r) (ok : OkNF C r f) (hg : Gl X nm) (hm : X.mg nm = none) (hv : bootBuiltins nm = some (.type T)) (ha : PA X (a :: es) (tA C xs))
    (hn : nm ≠ "__name__" := by decide) (hdb : (nm == ("__debug__" : Str)) = false := by decide)
    (he : starEach (a :: es) X.env = (false, eval a X.env) :: starEach es X.env := by rfl) (hpl : (backTo pos (starEach es X.env)).any (·.1) = false := by rfl) : PE X (.Call (.Name nm p) (a :: es) [] pos) (tF C (.op f xs)) :=
  (pe_callTy hc hg hm hv ha hn hdb he hpl).imp fun σ H Q q => tF_op ok q
end
end Mi

/-! Tests, calls. -/
namespace Mi
open PySem PySem.Spec PyProof.Rows L2 GxR
theorem lim16 {n : Nat} (h : n ≤ 16000000) : n ≤ sizeLine := by rw [sizeLine_eq]; omega
section
variable {X : Cx} {C : Cfg} {a b c : Expr} {x y z : Ex} {pos : Pos}
/-! ### tests -/
theorem truth_V {K : Frag} {G H : Hp} {v : V} {d : D} {b : Bool} (r : RepT K G H v d) (h : truth d = some b) : TruV K v H b := by
  cases r with
  | non => cases h; rfl
  | bl k => cases h; rfl
  | int i => cases h; rfl
  | str s =>
    unfold truth at h
    dsimp only at h
    split at h
    · rename_i hl
      cases h
      refine ⟨by have := lim16 hl; simpa [Str.length] using this, ?_⟩
      cases s with
      | nil => rfl
      | cons c s =>
        have : ((((c :: s).toArray.size : Nat) : Int) != 0) = true := by
          have h2 : (c :: s).toArray.size = s.length + 1 := by simp
          rw [h2]
          simp only [bne_iff_ne, ne_eq]
          omega
        exact this.symm
    · cases h
  | tup g q rr =>
    cases h
    refine .inr (.inl ⟨_, SqT.of q, ?_⟩)
    cases rr <;> rfl
  | lst q rr =>
    cases h
    refine .inl ⟨_, SqL.of q, ?_⟩
    cases rr <;> rfl
  | scr q => cases h
  | dK q e rr => cases h
  | dT q e rr => cases h
theorem ct_truth (ha : PE X a (tE C x)) (hK : C.K = X.K) (he : ∀ whole, isTrue a X.env whole = (do let v ← whole; standAt a.pos; holding [v] (truthy v))) : PT X a (tT C x) :=
  (pt_truth ha he).imp fun σ H Q q => by
    obtain ⟨F, G0, G, pn, e, r, e', d, bb, R, he, hg, ht, k⟩ := q
    refine ⟨F, G0, G, pn, e, r, e', R, he, fun v G' H' R' s rv => ⟨bb, ?_, k G' H' R' s⟩⟩
    rw [← hK]
    exact truth_V (R'.get rv hg) ht
theorem ct_not (ha : PT X a (tT C x)) : PT X (.UnaryOp .Not a pos) (tT C (.op (fun ds => match ds with
    | [d] => (truth d).map fun b => .bl (!b)
    | _ => none) [x])) := (pt_not ha).imp fun σ H Q q => by
  obtain ⟨F, G0, G, pn, e, r, e', d, bb, R, he, hg, ht, k⟩ := q
  obtain ⟨rs, ds, d1, q1, q2, q3, rfl⟩ := ev_op he
  unfold evs at q1
  split at q1
  · rename_i r1 e1 q4
    unfold evs at q1
    cases q1
    unfold gets at q2
    split at q2
    · rename_i d2 q5
      unfold gets at q2
      cases q2
      dsimp only at q3
      cases q6 : truth d2 with
      | none => rw [q6] at q3; cases q3
      | some k2 =>
        rw [q6] at q3
        cases q3
        cases hg
        cases ht
        exact ⟨F, G0, G, pn, e, r1, e', d2, k2, R, q4, q5, q6, k⟩
    · cases q2
  · cases q1
def notF : List D → Option D := fun ds => match ds with
  | [d] => (truth d).map fun b => .bl (!b)
  | _ => none
theorem notF_boo : Boo notF := fun ds d h => by
  unfold notF at h
  split at h
  · rename_i d0
    cases q : truth d0 with
    | none => rw [q] at h; cases h
    | some b => rw [q] at h; cases h; exact ⟨_, rfl⟩
  · cases h
theorem ct_notF (ha : PT X a (tT C x)) : PT X (.UnaryOp .Not a pos) (tT C (.op notF [x])) := ct_not ha
theorem ce_notF (ha : PE X a (tE C x)) (hK : C.K = X.K) : PE X (.UnaryOp .Not a pos) (tE C (.op notF [x])) := (pe_notT ha).imp fun σ H Q q => by
  obtain ⟨F, G0, G, pn, e, r, e', R, he, k⟩ := q
  obtain ⟨rs, ds, d1, q1, q2, q3, rfl⟩ := ev_op he
  unfold evs at q1
  split at q1
  · rename_i r1 e1 q4
    unfold evs at q1
    cases q1
    unfold gets at q2
    split at q2
    · rename_i d2 q5
      unfold gets at q2
      cases q2
      unfold notF at q3
      dsimp only at q3
      cases q6 : truth d2 with
      | none => rw [q6] at q3; cases q3
      | some k2 =>
        rw [q6] at q3
        cases q3
        refine ⟨F, G0, G, pn, e, r1, e', R, q4, fun v G' H' R' s rv => ⟨k2, ?_, k (.bl (!k2)) G' H' R' s (.bl _)⟩⟩
        rw [← hK]
        exact truth_V (R'.get rv q5) q6
    · cases q2
  · cases q1
theorem tAnd_of {σ : St} {H : Hp} {Q : Bool → Hp → Prop} (q : tT C (.and_ x y) σ H Q) : tAnd (tT C x) (tT C y) σ H Q := by
  obtain ⟨F, G0, G, pn, e, r, e', d, bb, R, he, hg, ht, k⟩ := q
  unfold ev at he
  split at he
  · rename_i r1 e1 q1
    split at he
    · rename_i d1 q2
      split at he
      · rename_i q3
        exact ⟨F, G0, G, pn, e, r1, e1, d1, true, R, q1, q2, q3, fun G1 H1 R1 s1 => iteT ⟨F, G0, G1, pn, e1, r, e', d, bb, R1, he, hg, ht, fun G2 H2 R2 s2 => k G2 H2 R2 (s1.trans s2)⟩⟩
      · rename_i q3
        cases he
        rw [q2] at hg
        cases hg
        rw [q3] at ht
        cases ht
        exact ⟨F, G0, G, pn, e, r, e', d, false, R, q1, q2, q3, fun G1 H1 R1 s1 => iteF (k G1 H1 R1 s1)⟩
      · cases he
    · cases he
  · cases he
theorem tOr_of {σ : St} {H : Hp} {Q : Bool → Hp → Prop} (q : tT C (.or_ x y) σ H Q) : tOr (tT C x) (tT C y) σ H Q := by
  obtain ⟨F, G0, G, pn, e, r, e', d, bb, R, he, hg, ht, k⟩ := q
  unfold ev at he
  split at he
  · rename_i r1 e1 q1
    split at he
    · rename_i d1 q2
      split at he
      · rename_i q3
        exact ⟨F, G0, G, pn, e, r1, e1, d1, false, R, q1, q2, q3, fun G1 H1 R1 s1 => iteF ⟨F, G0, G1, pn, e1, r, e', d, bb, R1, he, hg, ht, fun G2 H2 R2 s2 => k G2 H2 R2 (s1.trans s2)⟩⟩
      · rename_i q3
        cases he
        rw [q2] at hg
        cases hg
        rw [q3] at ht
        cases ht
        exact ⟨F, G0, G, pn, e, r, e', d, true, R, q1, q2, q3, fun G1 H1 R1 s1 => iteT (k G1 H1 R1 s1)⟩
      · cases he
    · cases he
  · cases he
variable {rest : List Expr}
theorem cw_and1 (ha : PT X a (tT C x)) : PW X (.BoolOp .And [a] pos) (tT C x) := pw_and1 ha
theorem cw_or1 (ha : PT X a (tT C x)) : PW X (.BoolOp .Or [a] pos) (tT C x) := pw_or1 ha
theorem cw_and (ha : PT X a (tT C x)) (hb : PW X (.BoolOp .And (b :: rest) pos) (tT C y)) : PW X (.BoolOp .And (a :: b :: rest) pos) (tT C (.and_ x y)) := (pw_and ha hb).imp fun σ H Q q => tAnd_of q
theorem cw_or (ha : PT X a (tT C x)) (hb : PW X (.BoolOp .Or (b :: rest) pos) (tT C y)) : PW X (.BoolOp .Or (a :: b :: rest) pos) (tT C (.or_ x y)) := (pw_or ha hb).imp fun σ H Q q => tOr_of q
/-- .. as values -/
theorem ce_one {op : BoolOp} (ha : PE X a (tE C x)) (h : ∀ {t : TE}, PE X a t → PE X (.BoolOp op [a] pos) t) : PE X (.BoolOp op [a] pos) (tE C x) := h ha
theorem ce_and (ha : PE X a (tE C x)) (hb : PE X (.BoolOp .And (b :: rest) pos) (tE C y)) (hK : C.K = X.K) : PE X (.BoolOp .And (a :: b :: rest) pos) (tE C (.and_ x y)) := (pe_andT ha hb).imp fun σ H Q q => by
  obtain ⟨F, G0, G, pn, e, r, e', R, he, k⟩ := q
  unfold ev at he
  split at he
  · rename_i r1 e1 q1
    split at he
    · rename_i d1 q2
      split at he
      · rename_i q3
        refine ⟨F, G0, G, pn, e, r1, e1, R, q1, fun v G1 H1 R1 s1 rv => ⟨true, by rw [← hK]; exact truth_V (R1.get rv q2) q3, iteT ⟨F, G0, G1, pn, e1, r, e', R1, he, fun w G2 H2 R2 s2 => k w G2 H2 R2 (s1.trans s2)⟩⟩⟩
      · rename_i q3
        cases he
        exact ⟨F, G0, G, pn, e, r, e', R, q1, fun v G1 H1 R1 s1 rv => ⟨false, by rw [← hK]; exact truth_V (R1.get rv q2) q3, iteF (k v G1 H1 R1 s1 rv)⟩⟩
      · cases he
    · cases he
  · cases he
theorem ce_or (ha : PE X a (tE C x)) (hb : PE X (.BoolOp .Or (b :: rest) pos) (tE C y)) (hK : C.K = X.K) : PE X (.BoolOp .Or (a :: b :: rest) pos) (tE C (.or_ x y)) := (pe_orT ha hb).imp fun σ H Q q => by
  obtain ⟨F, G0, G, pn, e, r, e', R, he, k⟩ := q
  unfold ev at he
  split at he
  · rename_i r1 e1 q1
    split at he
    · rename_i d1 q2
      split at he
      · rename_i q3
        refine ⟨F, G0, G, pn, e, r1, e1, R, q1, fun v G1 H1 R1 s1 rv => ⟨false, by rw [← hK]; exact truth_V (R1.get rv q2) q3, iteF ⟨F, G0, G1, pn, e1, r, e', R1, he, fun w G2 H2 R2 s2 => k w G2 H2 R2 (s1.trans s2)⟩⟩⟩
      · rename_i q3
        cases he
        exact ⟨F, G0, G, pn, e, r, e', R, q1, fun v G1 H1 R1 s1 rv => ⟨true, by rw [← hK]; exact truth_V (R1.get rv q2) q3, iteT (k v G1 H1 R1 s1 rv)⟩⟩
      · cases he
    · cases he
  · cases he
theorem ev_ite {e e' : Env'} {r : Rv} (he : ev (.ite z x y) e = some (r, e')) : ∃ r1 e1 d1 b, ev z e = some (r1, e1) ∧ r1.get e1 = some d1 ∧ truth d1 = some b ∧ ev (if b = true then x else y) e1 = some (r, e') := by
  unfold ev at he
  split at he
  · rename_i r1 e1 q1
    split at he
    · rename_i d1 q2
      split at he
      · rename_i q3
        exact ⟨r1, e1, d1, true, q1, q2, q3, by rw [if_pos rfl]; exact he⟩
      · rename_i q3
        exact ⟨r1, e1, d1, false, q1, q2, q3, by rw [if_neg Bool.false_ne_true]; exact he⟩
      · cases he
    · cases he
  · cases he
theorem ce_ite (hc : PT X c (tT C z)) (ha : PE X a (tE C x)) (hb : PE X b (tE C y)) : PE X (.IfExp c a b pos) (tE C (.ite z x y)) := (pe_ifExp hc ha hb).imp fun σ H Q q => by
  obtain ⟨F, G0, G, pn, e, r, e', R, he, k⟩ := q
  obtain ⟨r1, e1, d1, bb, q1, q2, q3, q4⟩ := ev_ite he
  refine ⟨F, G0, G, pn, e, r1, e1, d1, bb, R, q1, q2, q3, fun G1 H1 R1 s1 => ?_⟩
  cases bb with
  | true => exact iteT ⟨F, G0, G1, pn, e1, r, e', R1, q4, fun w G2 H2 R2 s2 => k w G2 H2 R2 (s1.trans s2)⟩
  | false => exact iteF ⟨F, G0, G1, pn, e1, r, e', R1, q4, fun w G2 H2 R2 s2 => k w G2 H2 R2 (s1.trans s2)⟩
theorem cf_ite (hc : PT X c (tT C z)) (ha : PE X a (tF C x)) (hb : PE X b (tF C y)) : PE X (.IfExp c a b pos) (tF C (.ite z x y)) := (pe_ifExp hc ha hb).imp fun σ H Q q => by
  obtain ⟨F, G0, G, pn, e, d, e', R, he, k⟩ := q
  obtain ⟨r1, e1, d1, bb, q1, q2, q3, q4⟩ := ev_ite he
  refine ⟨F, G0, G, pn, e, r1, e1, d1, bb, R, q1, q2, q3, fun G1 H1 R1 s1 => ?_⟩
  cases bb with
  | true => exact iteT ⟨F, G0, G1, pn, e1, d, e', R1, q4, fun p o G2 H2 R2 s2 => k p o G2 H2 R2 (s1.trans s2)⟩
  | false => exact iteF ⟨F, G0, G1, pn, e1, d, e', R1, q4, fun p o G2 H2 R2 s2 => k p o G2 H2 R2 (s1.trans s2)⟩
theorem ev_chain {f g : List D → Option D} {e e' : Env'} {r : Rv} (he : ev (.chain f g x y z) e = some (r, e')) :
    ∃ ra e1 rb e2 ds, ev x e = some (ra, e1) ∧ ev y e1 = some (rb, e2) ∧ gets e2 [ra, rb] = some ds ∧
      ((f ds = some (.bl false) ∧ r = .pers (.bl false) ∧ e' = e2) ∨ (f ds = some (.bl true) ∧ ∃ rc ds2 d, ev z e2 = some (rc, e') ∧ gets e' [rb, rc] = some ds2 ∧ g ds2 = some d ∧ r = .pers d)) := by
  unfold ev at he
  split at he
  · rename_i ra e1 q1
    split at he
    · rename_i rb e2 q2
      split at he
      · rename_i ds q3
        split at he
        · rename_i q4
          split at he
          · rename_i rc e3 q5
            split at he
            · rename_i ds2 q6
              split at he
              · rename_i d q7
                cases he
                exact ⟨ra, e1, rb, e2, ds, q1, q2, q3, .inr ⟨q4, rc, ds2, d, q5, q6, q7, rfl⟩⟩
              · cases he
            · cases he
          · cases he
        · rename_i q4
          cases he
          exact ⟨ra, e1, rb, _, ds, q1, q2, q3, .inl ⟨q4, rfl, rfl⟩⟩
        · cases he
      · cases he
    · cases he
  · cases he
theorem gets2 {e : Env'} {ra rb : Rv} {ds : List D} (h : gets e [ra, rb] = some ds) : ∃ a b, ds = [a, b] ∧ ra.get e = some a ∧ rb.get e = some b := by
  unfold gets at h
  split at h
  · rename_i a qa
    split at h
    · rename_i ds2 q2
      unfold gets at q2
      split at q2
      · rename_i b qb
        unfold gets at q2
        cases q2
        cases h
        exact ⟨a, b, rfl, qa, qb⟩
      · cases q2
    · cases h
  · cases h
theorem tChain_of {r r' : R2} {f g : List D → Option D} (ok : Ok2 C r f) (ok' : Ok2 C r' g) {σ : St} {H : Hp} {Q : VK} (q : tE C (.chain f g x y z) σ H Q) : tChain r r' (tE C x) (tE C y) (tE C z) σ H Q := by
  obtain ⟨F, G0, G, pn, e, rr, e', R, he, k⟩ := q
  obtain ⟨ra, e1, rb, e2, ds, q1, q2, q3, q4⟩ := ev_chain he
  refine ⟨F, G0, G, pn, e, ra, e1, R, q1, fun v G1 H1 R1 s1 rv => ⟨F, G0, G1, pn, e1, rb, e2, R1, q2, fun w G2 H2 R2 s2 rw' => ?_⟩⟩
  obtain ⟨da, db, rfl, ga, gb⟩ := gets2 q3
  have rv2 := (rv.mono s2).env (ev_kept y _ _ _ q2).1
  rcases q4 with ⟨hf, rfl, rfl⟩ | ⟨hf, rc, ds2, d, q5, q6, q7, rfl⟩
  · refine ok v w da db _ G2 H2 _ R2.gh R2.tabs (R2.get rv2 ga) (R2.get rw' gb) hf fun u G3 H3 gr ru => ?_
    cases ru
    exact ⟨false, rfl, iteF (k (.bl false) G3 H3 (R2.grow gr) ((s1.trans s2).trans gr.gg) (.bl false))⟩
  · refine ok v w da db _ G2 H2 _ R2.gh R2.tabs (R2.get rv2 ga) (R2.get rw' gb) hf fun u G3 H3 gr ru => ?_
    cases ru
    refine ⟨true, rfl, iteT ⟨F, G0, G3, pn, e2, rc, e', R2.grow gr, q5, fun u2 G4 H4 R4 s4 ru2 => ?_⟩⟩
    obtain ⟨db2, dc, rfl, gb2, gc⟩ := gets2 q6
    have rw2 := (rw'.mono (gr.gg.trans s4)).env (ev_kept z _ _ _ q5).1
    exact ok' w u2 db2 dc d G4 H4 Q R4.gh R4.tabs (R4.get rw2 gb2) (R4.get ru2 gc) q7 fun u3 G5 H5 gr5 ru3 => k u3 G5 H5 (R4.grow gr5) ((((s1.trans s2).trans gr.gg).trans s4).trans gr5.gg) ru3
theorem ce_chain {op op' : CmpOp} {r r' : R2} {f g : List D → Option D} (ho : OpR X (compareOp op) r) (ho' : OpR X (compareOp op') r') (ok : Ok2 C r f) (ok' : Ok2 C r' g) (ha : PE X a (tE C x)) (hb : PE X b (tE C y)) (hc : PE X c (tE C z))
    (hm : lastMarks [op, op'] [b, c] = false := by with_unfolding_all rfl) : PE X (.Compare a [op, op'] [b, c] pos) (tE C (.chain f g x y z)) := (pe_chain ho ho' ha hb hc hm).imp fun σ H Q q => tChain_of ok ok' q
theorem ct_chain {op op' : CmpOp} {r r' : R2} {f g : List D → Option D} (ho : OpR X (compareOp op) r) (ho' : OpR X (compareOp op') r') (ok : Ok2 C r f) (ok' : Ok2 C r' g) (bg : Boo g) (ha : PE X a (tE C x)) (hb : PE X b (tE C y)) (hc : PE X c (tE C z))
    (hm : lastMarks [op, op'] [b, c] = false := by with_unfolding_all rfl) : PT X (.Compare a [op, op'] [b, c] pos) (tT C (.chain f g x y z)) := (pt_chain ho ho' ha hb hc hm).imp fun σ H Q q =>
  tTest_of (fun Q q => tChain_of ok ok' q) (fun e r e' he => by
    obtain ⟨ra, e1, rb, e2, ds, q1, q2, q3, q4⟩ := ev_chain he
    rcases q4 with ⟨_, rfl, _⟩ | ⟨_, rc, ds2, d, _, _, q7, rfl⟩
    · exact ⟨false, rfl⟩
    · obtain ⟨k, rfl⟩ := bg ds2 d q7
      exact ⟨k, rfl⟩) q
/-! ### calls of one's own functions -/
/-- a promise: f of known things, a known answer -/
def spI (C : Cfg) (n : Nat) (φ : List D → Option D) : Sp := fun vs H Q _ => ∃ (G : Hp) (ds : List D) (d : D), vs.length = n ∧ Same G H ∧ (∀ P ∈ C.tt, TabG H P ∧ G P = none) ∧ RepL C.K G vs ds ∧ φ ds = some d ∧
  ∀ v G' H', Grow C G H G' H' → Rep C.K G' v d → Q v H'
structure GrowO (C : Cfg) (p : Addr) (G H G' H' : Hp) : Prop where
  gg : Same G G'
  gh : Same G' H'
  hh : ∀ q, q ≠ p → H q ≠ none → q ∉ C.tt → H' q = H q
  go : ∀ q, H q ≠ none → G' q = G q
  tb : ∀ P ∈ C.tt, TabG H' P
/-- the first argument is an own thing, changed on the way -/
def spO (C : Cfg) (n : Nat) (φ : List D → Option (D × D)) : Sp := fun vs H Q _ => ∃ (G : Hp) (p : Addr) (o : HO) (d0 : D) (ws : List V) (ds : List D) (d d1 : D), vs = .ref p :: ws ∧ vs.length = n ∧ Same G H ∧ (∀ P ∈ C.tt, TabG H P ∧ G P = none) ∧ G p = none ∧ p ∉ C.tt ∧ H p = some o ∧ RepO C.K G o d0 ∧
  RepL C.K G ws ds ∧ φ (d0 :: ds) = some (d, d1) ∧ ∀ v G' H' o', GrowO C p G H G' H' → Rep C.K G' v d → H' p = some o' → RepO C.K G' o' d1 → Q v H'
theorem evs_len : ∀ {xs : List Ex} {e e1 : Env'} {rs : List Rv}, evs xs e = some (rs, e1) → rs.length = xs.length
  | [], e, e1, rs, h => by unfold evs at h; cases h; rfl
  | x :: xs, e, e1, rs, h => by
    unfold evs at h
    split at h
    · split at h
      · rename_i q
        cases h
        exact congrArg Nat.succ (evs_len q)
      · cases h
    · cases h
theorem settles_len : ∀ {rs : List Rv} {e e1 : Env'} {ds : List D}, settles e rs = some (ds, e1) → ds.length = rs.length
  | [], e, e1, ds, h => by cases h; rfl
  | r :: rs, e, e1, ds, h => by
    unfold settles at h
    split at h
    · split at h
      · rename_i q
        cases h
        exact congrArg Nat.succ (settles_len q)
      · cases h
    · cases h
theorem ev_call {φ : List D → Option D} {xs : List Ex} {e e' : Env'} {r : Rv} (h : ev (.call φ xs) e = some (r, e')) : ∃ rs e1 ds d, evs xs e = some (rs, e1) ∧ settles e1 rs = some (ds, e') ∧ φ ds = some d ∧ r = .pers d := by
  unfold ev at h
  split at h
  · rename_i rs e1 q
    split at h
    · rename_i ds e2 q2
      split at h
      · rename_i d q3
        cases h
        exact ⟨rs, e1, ds, d, q, q2, q3, rfl⟩
      · cases h
    · cases h
  · cases h
theorem tCall_of {n : Nat} {φ : List D → Option D} {xs : List Ex} (hn : xs.length = n) {σ : St} {H : Hp} {Q : VK} (q : tE C (.call φ xs) σ H Q) : tCall (spI C n φ) [] E0 (tA C xs) σ H Q := by
  obtain ⟨F, G0, G, pn, e, rr, e', R, he, k⟩ := q
  obtain ⟨rs, e1, ds, d, q1, q2, q3, rfl⟩ := ev_call he
  refine ⟨F, G0, G, pn, e, rs, e1, R, q1, fun vs G1 H1 R1 s1 r1 => ?_⟩
  obtain ⟨G2, s2, R2, r2, _⟩ := Rel.settles R1 r1 q2
  refine ⟨G2, ds, d, ?_, R2.gh, fun P hP => ⟨(R2.tb P hP).1, (R2.tb P hP).2.1⟩, by rw [List.append_nil]; exact r2, q3, fun v G3 H3 g rv => k v G3 H3 (R2.grow g) ((s1.trans s2).trans g.gg) rv⟩
  rw [List.append_nil, ← hn, r2.length, settles_len q2, evs_len q1]
variable {k n : Nat} {f : Addr} {fd : FuncData} {ps : List Str} {nm : Str} {p : Pos} {es : List Expr} {xs : List Ex}
theorem ce_call {φ : List D → Option D} (F : FnOk X.prog X.w X.K X.mg X.base CX0 k f fd ps (spI C n φ)) (hr : Room k X.A) (hg : Gl X nm) (hm : X.mg nm = some (.ref f)) (hk : PySem.W.keepIn X.K (.ref f) = true) (hb : Binds X.K fd ps []) (ha : PA X (a :: es) (tA C xs)) (hn : xs.length = n)
    (hdb : (nm == ("__debug__" : Str)) = false := by decide) (he : starEach (a :: es) X.env = (false, eval a X.env) :: starEach es X.env := by rfl) (hpl : (backTo pos (starEach es X.env)).any (·.1) = false := by rfl) :
    PE X (.Call (.Name nm p) (a :: es) [] pos) (tE C (.call φ xs)) := (pe_call F hr hg hm hk hb .nil pass0 ha hdb he hpl).imp fun σ H Q q => tCall_of hn q
theorem ce_call0 {φ : List D → Option D} (F : FnOk X.prog X.w X.K X.mg X.base CX0 k f fd ps (spI C 0 φ)) (hr : Room k X.A) (hg : Gl X nm) (hm : X.mg nm = some (.ref f)) (hk : PySem.W.keepIn X.K (.ref f) = true) (hb : Binds X.K fd ps [])
    (hdb : (nm == ("__debug__" : Str)) = false := by decide) :
    PE X (.Call (.Name nm p) [] [] pos) (tE C (.call φ [])) := (pe_call0 F hr hg hm hk hb .nil pass0 hdb).imp fun σ H Q q => by
  obtain ⟨F, G0, G, pn, e, rs, e', R, q1, k⟩ := (tCall_of rfl q : tCall (spI C 0 φ) [] E0 (tA C []) σ H Q)
  unfold evs at q1
  cases q1
  exact k [] G H R (Same.refl G) .nil
theorem ev_callO {φ : List D → Option (D × D)} {i : Nat} {e e' : Env'} {r : Rv} (h : ev (.callO φ i xs) e = some (r, e')) : ownAt e i = true ∧ ∃ rs e1 ds e2 d0 d d1, evs xs e = some (rs, e1) ∧ settles e1 rs = some (ds, e2) ∧ φ (d0 :: ds) = some (d, d1) ∧ r = .pers d ∧
    ((e2[i]? = some (.ow d0) ∧ e' = e2.set i (.ow d1)) ∨ (e2[i]? = some (.io d0) ∧ e' = e2.set i (.io d1))) := by
  unfold ev at h
  split at h
  · rename_i h0
    refine ⟨h0, ?_⟩
    split at h
    · rename_i rs e1 q
      split at h
      · rename_i ds e2 q2
        split at h
        · rename_i d0 q3
          split at h
          · rename_i d d1 q4
            cases h
            exact ⟨rs, e1, ds, e2, d0, d, d1, q, q2, q4, rfl, .inl ⟨q3, rfl⟩⟩
          · cases h
        · rename_i d0 q3
          split at h
          · rename_i d d1 q4
            cases h
            exact ⟨rs, e1, ds, e2, d0, d, d1, q, q2, q4, rfl, .inr ⟨q3, rfl⟩⟩
          · cases h
        · cases h
      · cases h
    · cases h
  · cases h
/-- an own thing at place i has changed -/
theorem Rel.own {F G0 G H G' H' : Hp} {pn : Option (Nat × Addr)} {σ : St} {e : Env'} {i : Nat} {p : Addr} {b b' : B} {o' : HO} (R : Rel C F G0 G H pn σ e) (hs : σ[i]? = some (some (.ref p))) (hb : e[i]? = some b) (hc : ∃ d d', (b = .ow d ∧ b' = .ow d') ∨ (b = .io d ∧ b' = .io d'))
    (g : GrowO C p G H G' H') (ho : H' p = some o') (hr : ∀ d', b'.data = some d' → RepO C.K G' o' d') : Rel C F G0 G' H' pn σ (e.set i b') := by
  obtain ⟨d, d', hc⟩ := hc
  have hbo : b.isOw = true := by rcases hc with ⟨rfl, _⟩ | ⟨rfl, _⟩ <;> rfl
  have hbo' : b'.isOw = true := by rcases hc with ⟨_, rfl⟩ | ⟨_, rfl⟩ <;> rfl
  have hd' : b'.data = some d' := by rcases hc with ⟨_, rfl⟩ | ⟨_, rfl⟩ <;> rfl
  have hi : i < e.length := (List.getElem?_eq_some_iff.mp hb).1
  have base : G p = none ∧ F p = none ∧ p ∉ C.tt ∧ H p ≠ none := by
    have q := R.sl i b hb
    rw [hs] at q
    rcases hc with ⟨rfl, _⟩ | ⟨rfl, _⟩
    · obtain ⟨p', o, e2, h1, h2, h3, h4, _⟩ := q
      cases e2
      exact ⟨h1, h2, h3, by rw [h4]; exact fun z => nomatch z⟩
    · obtain ⟨p', o, e2, h1, h2, h3, h4, _⟩ := q
      cases e2
      exact ⟨h1, h2, h3, by rw [h4]; exact fun z => nomatch z⟩
  obtain ⟨g1, f1, t1, n1⟩ := base
  have fs : ∀ q, F q ≠ none → H q ≠ none := fun q h => by
    cases z : F q with
    | none => exact absurd z h
    | some o => rw [R.fh q o z]; exact fun z => nomatch z
  have ow0 : Own σ e i p := ⟨hs, b, hb, hbo⟩
  have get' : ∀ {j : Nat} {x : B}, (e.set i b')[j]? = some x → x.isOw = true → ∃ y, e[j]? = some y ∧ y.isOw = true := fun {j x} h ho => by
    by_cases hj : i = j
    · subst hj
      exact ⟨b, hb, hbo⟩
    · rw [List.getElem?_set_ne hj] at h
      exact ⟨x, h, ho⟩
  refine ⟨fun q o h => ?_, g.gh, fun q h => by rw [g.go q (fs q h)]; exact R.gf q h, fun P hP => ⟨g.tb P hP, ?_, (R.tb P hP).2.2⟩, fun j x hx => ?_, fun j m a ⟨a1, x, a2, a3⟩ ⟨b1, y, b2, b3⟩ => ?_, fun j a ha => ?_, by rw [List.length_set]; exact R.ln⟩
  · have hne : q ∉ C.tt := fun z => by rw [(R.tb q z).2.2] at h; cases h
    have hqp : q ≠ p := fun z => by rw [z, f1] at h; cases h
    rw [g.hh q hqp (by rw [R.fh q o h]; exact fun z => nomatch z) hne]
    exact R.fh q o h
  · rw [g.go P (tabG_some (R.tb P hP).1)]; exact (R.tb P hP).2.1
  · by_cases hj : i = j
    · subst hj
      rw [List.getElem?_set_self hi] at hx
      cases hx
      have fin : ∃ p o, σ[i]? = some (some (.ref p)) ∧ G' p = none ∧ F p = none ∧ p ∉ C.tt ∧ H' p = some o ∧ RepO C.K G' o d' := ⟨p, o', hs, by rw [g.go p n1]; exact g1, f1, t1, ho, hr d' hd'⟩
      rcases hc with ⟨_, rfl⟩ | ⟨_, rfl⟩
      · exact fin
      · exact fin
    · rw [List.getElem?_set_ne hj] at hx
      have q := R.sl j x hx
      have ow : ∀ {p' : Addr} {o : HO} {d : D}, σ[j]? = some (some (.ref p')) → x.isOw = true → G p' = none → F p' = none → p' ∉ C.tt → H p' = some o → RepO C.K G o d → G' p' = none ∧ H' p' = some o ∧ RepO C.K G' o d := fun {p' o d} k0 kx h1 h2 h3 h4 h5 => by
        have hs2 : H p' ≠ none := by rw [h4]; exact fun z => nomatch z
        have hpp : p' ≠ p := fun z => by
          subst z
          exact hj (R.ap i j p' ow0 ⟨k0, x, hx, kx⟩)
        exact ⟨by rw [g.go p' hs2]; exact h1, by rw [g.hh p' hpp hs2 h3]; exact h4, h5.mono g.gg⟩
      cases x with
      | un => trivial
      | im d2 =>
        obtain ⟨v, h1, h2⟩ := q
        exact ⟨v, h1, h2.mono g.gg⟩
      | ow d2 =>
        obtain ⟨p', o, h0, h1, h2, h3, h4, h5⟩ := q
        obtain ⟨k1, k2, k3⟩ := ow h0 rfl h1 h2 h3 h4 h5
        exact ⟨p', o, h0, k1, h2, h3, k2, k3⟩
      | io d2 =>
        obtain ⟨p', o, h0, h1, h2, h3, h4, h5⟩ := q
        obtain ⟨k1, k2, k3⟩ := ow h0 rfl h1 h2 h3 h4 h5
        exact ⟨p', o, h0, k1, h2, h3, k2, k3⟩
  · obtain ⟨x', hx', ox'⟩ := get' a2 a3
    obtain ⟨y', hy', oy'⟩ := get' b2 b3
    exact R.ap j m a ⟨a1, x', hx', ox'⟩ ⟨b1, y', hy', oy'⟩
  · obtain ⟨k1, d2, k2⟩ := R.pi j a ha
    refine ⟨k1, ?_⟩
    by_cases hj : i = j
    · subst hj
      rw [hb] at k2
      rcases hc with ⟨rfl, rfl⟩ | ⟨rfl, rfl⟩
      · cases k2
      · exact ⟨d', List.getElem?_set_self hi⟩
    · exact ⟨d2, by rw [List.getElem?_set_ne hj]; exact k2⟩
theorem ce_callO {φ : List D → Option (D × D)} {i : Nat} {a0 : Str} {p0 : Pos} (F : FnOk X.prog X.w X.K X.mg X.base CX0 k f fd ps (spO C n φ)) (hr : Room k X.A) (hg : Gl X nm) (hm : X.mg nm = some (.ref f)) (hk : PySem.W.keepIn X.K (.ref f) = true) (hb : Binds X.K fd ps [])
    (h0 : PE X (.Name a0 p0) (tVar i)) (ha : PA X es (tA C xs)) (hn : xs.length + 1 = n)
    (hdb : (nm == ("__debug__" : Str)) = false := by decide) (he : starEach (.Name a0 p0 :: es) X.env = (false, eval (.Name a0 p0) X.env) :: starEach es X.env := by rfl) (hpl : (backTo pos (starEach es X.env)).any (·.1) = false := by rfl) :
    PE X (.Call (.Name nm p) (.Name a0 p0 :: es) [] pos) (tE C (.callO φ i xs)) := (pe_call F hr hg hm hk hb .nil pass0 (pa_cons h0 ha he) hdb he hpl).imp fun σ H Q q => by
  obtain ⟨F, G0, G, pn, e, rr, e', R, he, k⟩ := q
  obtain ⟨h0, rs, e1, ds, e2, d0, d, d1, q1, q2, q3, rfl, q4⟩ := ev_callO he
  obtain ⟨p, hv⟩ : ∃ p, σ[i]? = some (some (.ref p)) := by
    unfold ownAt at h0
    split at h0
    · rename_i b hb
      have sl := R.sl i b hb
      cases b with
      | un => cases h0
      | im d => cases h0
      | ow d => obtain ⟨p, o, z, _⟩ := sl; exact ⟨p, z⟩
      | io d => obtain ⟨p, o, z, _⟩ := sl; exact ⟨p, z⟩
    · cases h0
  refine ⟨.ref p, hv, F, G0, G, pn, e, rs, e1, R, q1, fun vs G1 H1 R1 s1 r1 => ?_⟩
  obtain ⟨G2, s2, R2, r2, _⟩ := Rel.settles R1 r1 q2
  have fin : ∀ {b b' : B}, e2[i]? = some b → e' = e2.set i b' → ((b = .ow d0 ∧ b' = .ow d1) ∨ (b = .io d0 ∧ b' = .io d1)) → spO C n φ ((V.ref p :: vs) ++ []) H1 Q E0 := fun {b b'} hb hb' hc => by
    obtain ⟨o, g1, f1, t1, h1, r0⟩ : ∃ o, G2 p = none ∧ F p = none ∧ p ∉ C.tt ∧ H1 p = some o ∧ RepO C.K G2 o d0 := by
      have sl := R2.sl i b hb
      rw [hv] at sl
      rcases hc with ⟨rfl, _⟩ | ⟨rfl, _⟩
      · obtain ⟨p', o, z, z2⟩ := sl
        cases z
        exact ⟨o, z2⟩
      · obtain ⟨p', o, z, z2⟩ := sl
        cases z
        exact ⟨o, z2⟩
    refine ⟨G2, p, o, d0, vs, ds, d, d1, List.append_nil _, ?_, R2.gh, fun P hP => ⟨(R2.tb P hP).1, (R2.tb P hP).2.1⟩, g1, t1, h1, r0, r2, q3, fun v G3 H3 o3 g rv ho hr => ?_⟩
    · rw [List.append_nil, List.length_cons, r2.length, settles_len q2, evs_len q1]
      exact hn
    · have R3 := R2.own (b := b) (b' := b') hv hb (by
        rcases hc with ⟨rfl, rfl⟩ | ⟨rfl, rfl⟩
        · exact ⟨d0, d1, .inl ⟨rfl, rfl⟩⟩
        · exact ⟨d0, d1, .inr ⟨rfl, rfl⟩⟩) g ho (fun d' hd => by
        rcases hc with ⟨rfl, rfl⟩ | ⟨rfl, rfl⟩
        · cases hd; exact hr
        · cases hd; exact hr)
      rw [← hb'] at R3
      exact k v G3 H3 R3 ((s1.trans s2).trans g.gg) rv
  rcases q4 with ⟨h1, h2⟩ | ⟨h1, h2⟩
  · exact fin h1 h2 (.inl ⟨rfl, rfl⟩)
  · exact fin h1 h2 (.inr ⟨rfl, rfl⟩)
end
end Mi

/-! Targets, what is walked, comprehensions. -/
namespace Mi
open PySem PySem.Spec PyProof.Rows L2 GxR
/-! ### targets -/
mutual
def Tg.slots : Tg → List Nat
  | .nm i => [i]
  | .tp ts => Tg.slotsL ts
def Tg.slotsL : List Tg → List Nat
  | [] => []
  | t :: ts => t.slots ++ Tg.slotsL ts
end
def OffS (l : List Nat) (σ σ' : St) : Prop := σ'.length = σ.length ∧ ∀ j, j ∉ l → σ'[j]? = σ[j]?
def tG (C : Cfg) (t : Tg) : TG := fun v σ H Q => ∃ (F G0 G : Hp) (pn : Option (Nat × Addr)) (e : Env') (d : D) (e' : Env'), Rel C F G0 G H pn σ e ∧ Rep C.K G v d ∧ t.bind d e = some e' ∧ ∀ σ', Rel C F G0 G H pn σ' e' → OffS t.slots σ σ' → Q σ' H
def tGs (C : Cfg) (ts : List Tg) : TGs := fun vs σ H Q => ∃ (F G0 G : Hp) (pn : Option (Nat × Addr)) (e : Env') (ds : List D) (e' : Env'), Rel C F G0 G H pn σ e ∧ RepL C.K G vs ds ∧ Tg.binds ts ds e = some e' ∧ ∀ σ', Rel C F G0 G H pn σ' e' → OffS (Tg.slotsL ts) σ σ' → Q σ' H
section
variable {X : Cx} {C : Cfg} {F G0 G G' H H' : Hp} {pn : Option (Nat × Addr)} {σ : St} {e e' : Env'} {v : V} {d : D}
theorem _root_.L2.PG.imp {tg : Expr} {t t' : TG} (h : PG X tg t) (k : ∀ v σ H Q, t' v σ H Q → t v σ H Q) : PG X tg t' := ⟨fun pins s σ H v u Q I r q => h.run pins s σ H v u Q I r (k v σ H Q q)⟩
theorem _root_.L2.PGs.imp {tg : List Expr} {t t' : TGs} (h : PGs X tg t) (k : ∀ v σ H Q, t' v σ H Q → t v σ H Q) : PGs X tg t' := ⟨fun pins s σ H v u Q I r q => h.run pins s σ H v u Q I r (k v σ H Q q)⟩
/-- a place gets a known value -/
theorem Rel.put (R : Rel C F G0 G H pn σ e) {i : Nat} {b0 : B} (h0 : e[i]? = some b0) (hn : ∀ d, b0 ≠ .io d) (r : Rep C.K G v d) : Rel C F G0 G H pn (σ.set i (some v)) (e.set i (.im d)) := by
  have hi : i < e.length := (List.getElem?_eq_some_iff.mp h0).1
  have his : i < σ.length := by rw [R.ln]; exact hi
  have back : ∀ {j : Nat} {p : Addr}, Own (σ.set i (some v)) (e.set i (.im d)) j p → Own σ e j p := fun {j p} ⟨a1, b, a2, a3⟩ => by
    by_cases hj : i = j
    · subst hj
      rw [List.getElem?_set_self hi] at a2
      cases a2
      cases a3
    · rw [List.getElem?_set_ne hj] at a1 a2
      exact ⟨a1, b, a2, a3⟩
  refine ⟨R.fh, R.gh, R.gf, R.tb, fun j b hb => ?_, fun j k p h1 h2 => R.ap j k p (back h1) (back h2), fun j p hj => ?_, by rw [List.length_set, List.length_set]; exact R.ln⟩
  · by_cases hj : i = j
    · subst hj
      rw [List.getElem?_set_self hi] at hb
      cases hb
      exact ⟨v, List.getElem?_set_self his, r⟩
    · rw [List.getElem?_set_ne hj] at hb
      rw [List.getElem?_set_ne hj]
      exact R.sl j b hb
  · obtain ⟨k1, d', k2⟩ := R.pi j p hj
    have hne : i ≠ j := fun z => by
      subst z
      rw [h0] at k2
      exact hn d' (Option.some.inj k2)
    exact ⟨by rw [List.getElem?_set_ne hne]; exact k1, d', by rw [List.getElem?_set_ne hne]; exact k2⟩
theorem bind_nm {i : Nat} (h : (Tg.nm i).bind d e = some e') : ∃ b0, e[i]? = some b0 ∧ (∀ d, b0 ≠ .io d) ∧ e' = e.set i (.im d) := by
  unfold Tg.bind at h
  cases q : e[i]? with
  | none => rw [q] at h; cases h
  | some b =>
    rw [q] at h
    cases b with
    | io x => cases h
    | un => cases h; exact ⟨_, rfl, (fun d z => nomatch z), rfl⟩
    | im x => cases h; exact ⟨_, rfl, (fun d z => nomatch z), rfl⟩
    | ow x => cases h; exact ⟨_, rfl, (fun d z => nomatch z), rfl⟩
theorem cg_name {i : Nat} {x : Str} {pos : Pos} (h : PG X (.Name x pos) (gName i)) : PG X (.Name x pos) (tG C (.nm i)) := h.imp fun v σ H Q q => by
  obtain ⟨F, G0, G, pn, e, d, e', R, r, hb, k⟩ := q
  obtain ⟨b0, h0, hn, rfl⟩ := bind_nm hb
  exact k _ (R.put h0 hn r) ⟨List.length_set, fun j hj => List.getElem?_set_ne (fun z => hj (by subst z; exact List.mem_cons_self))⟩
theorem cgs_nil : PGs X [] (tGs C []) := pgs_nil.imp fun vs σ H Q q => by
  obtain ⟨F, G0, G, pn, e, ds, e', R, r, hb, k⟩ := q
  cases r with
  | nil =>
    unfold Tg.binds at hb
    cases hb
    exact ⟨rfl, k σ R ⟨rfl, fun j _ => rfl⟩⟩
  | cons a b => unfold Tg.binds at hb; cases hb
theorem cgs_cons {a : Expr} {as : List Expr} {t : Tg} {ts : List Tg} (h1 : PG X a (tG C t)) (h2 : PGs X as (tGs C ts))
    (hs : (assignEach (a :: as) X.env).map (·.2) = assign a X.env :: (assignEach as X.env).map (·.2) := by rfl) : PGs X (a :: as) (tGs C (t :: ts)) := (pgs_cons h1 h2 hs).imp fun vs σ H Q q => by
  obtain ⟨F, G0, G, pn, e, ds, e', R, r, hb, k⟩ := q
  cases r with
  | nil => unfold Tg.binds at hb; cases hb
  | cons ra rb =>
    unfold Tg.binds at hb
    split at hb
    · rename_i e1 q1
      refine ⟨_, _, rfl, F, G0, G, pn, e, _, e1, R, ra, q1, fun σ1 R1 o1 => ⟨F, G0, G, pn, e1, _, e', R1, rb, hb, fun σ2 R2 o2 => k σ2 R2 ⟨o2.1.trans o1.1, fun j hj => ?_⟩⟩⟩
      unfold Tg.slotsL at hj
      rw [o2.2 j (fun z => hj (List.mem_append_right _ z)), o1.2 j (fun z => hj (List.mem_append_left _ z))]
    · cases hb
theorem cg_tup {es : List Expr} {n k : Nat} {ts : List Tg} {pos : Pos} (hc : X.calm = true) (hK : C.K = X.K) (h : PGs X es (tGs C ts)) (hl : ts.length = n)
    (hn : (assignEach es X.env).length = n := by rfl) (hst : (assignEach es X.env).findIdx? (·.1) = none := by rfl) : PG X (.Tuple es k pos) (tG C (.tp ts)) := (pg_tup (n := n) hc h hn hst).imp fun v σ H Q q => by
  obtain ⟨F, G0, G, pn, e, d, e', R, r, hb, k⟩ := q
  have bl : ∀ {ts : List Tg} {ds : List D} {e e' : Env'}, Tg.binds ts ds e = some e' → ds.length = ts.length := by
    intro ts
    induction ts with
    | nil => intro ds e e' h; cases ds with
      | nil => rfl
      | cons d ds => unfold Tg.binds at h; cases h
    | cons t ts ih => intro ds e e' h; cases ds with
      | nil => unfold Tg.binds at h; cases h
      | cons d ds =>
        unfold Tg.binds at h
        split at h
        · exact congrArg Nat.succ (ih h)
        · cases h
  cases r with
  | tup qt rl =>
    unfold Tg.bind at hb
    refine ⟨_, _, rfl, ?_, by rw [rl.length, bl hb]; exact hl, F, G0, G, pn, e, _, e', R, rl, hb, fun σ' R' o => k σ' R' (by unfold Tg.slots; exact o)⟩
    rw [← hK]
    exact SqT.of (R.gh _ _ qt)
  | non => unfold Tg.bind at hb; cases hb
  | bl b => unfold Tg.bind at hb; cases hb
  | int i => unfold Tg.bind at hb; cases hb
  | str s => unfold Tg.bind at hb; cases hb
  | lst qt rl => unfold Tg.bind at hb; cases hb
  | scr qt => unfold Tg.bind at hb; cases hb
  | dK a1 a2 a3 => unfold Tg.bind at hb; cases hb
  | dT a1 a2 a3 => unfold Tg.bind at hb; cases hb
/-! ### what is walked -/
structure Walks (C : Cfg) (G : Hp) (J : It) (items : List D) : Prop where
  go : ∀ i G1 H, i < items.length → Same G G1 → Same G1 H → J.go i H
  stop : ∀ i G1 H, items.length ≤ i → Same G G1 → Same G1 H → J.stop i H
  yld : ∀ (i : Nat) (d : D) (G1 H H' : Hp) (x : V), items[i]? = some d → Same G G1 → Same G1 H → (∀ P ∈ C.tt, TabG H P) → J.yld i H x H' → ∃ G2, Grow C G1 H G2 H' ∧ Rep C.K G2 x d
def tI (C : Cfg) (g : List D → Option (List D)) (xs : List Ex) : TI := fun σ H R => ∃ (F G0 G : Hp) (pn : Option (Nat × Addr)) (e : Env') (rs : List Rv) (e1 : Env') (ds : List D) (e2 : Env') (items : List D), Rel C F G0 G H pn σ e ∧ evs xs e = some (rs, e1) ∧ settles e1 rs = some (ds, e2) ∧ g ds = some items ∧
  ∀ J G' H', Rel C F G0 G' H' pn σ e2 → Same G G' → Walks C G' J items → R J H'
theorem _root_.L2.PI.imp {tg it : Expr} {t t' : TI} (h : PI X tg it t) (k : ∀ σ H R, t' σ H R → t σ H R) : PI X tg it t' := ⟨fun pins s σ H R I q => h.run pins s σ H R I (k σ H R q)⟩
/-- the items of one walked thing -/
def itemsF : List D → Option (List D) := fun ds => match ds with
  | [.lst l] => some l
  | [.tup l] => some l
  | [.str s] => some (s.map fun c => .str [c])
  | _ => none
theorem walks_list {a : Addr} {xs : List V} {ds : List D} (q : SqL C.K G a xs) (r : RepL C.K G xs ds) : Walks C G (Itl C.K a) ds where
  go := fun i G1 H hi s1 s2 => by
    have hx : i < xs.length := by rw [r.length]; exact hi
    exact ⟨xs, xs[i], (s1.trans s2).seq q, List.getElem?_eq_getElem hx⟩
  stop := fun i G1 H hi s1 s2 => ⟨xs, (s1.trans s2).seq q, by rw [r.length]; exact hi⟩
  yld := fun i d G1 H H' x hd s1 s2 t y => by
    obtain ⟨rfl, y⟩ := y
    obtain ⟨v, hv, rv⟩ := r.getD hd
    have e1 := y xs ((s1.trans s2).seq q)
    rw [hv] at e1
    cases e1
    exact ⟨G1, Grow.refl s2 t, rv.mono s1⟩
theorem walks_tup {a : Addr} {xs : List V} {ds : List D} (q : SqT C.K G a xs) (r : RepL C.K G xs ds) : Walks C G (Itt C.K a) ds where
  go := fun i G1 H hi s1 s2 => by
    have hx : i < xs.length := by rw [r.length]; exact hi
    exact ⟨xs, xs[i], (s1.trans s2).seqT q, List.getElem?_eq_getElem hx⟩
  stop := fun i G1 H hi s1 s2 => ⟨xs, (s1.trans s2).seqT q, by rw [r.length]; exact hi⟩
  yld := fun i d G1 H H' x hd s1 s2 t y => by
    obtain ⟨rfl, y⟩ := y
    obtain ⟨v, hv, rv⟩ := r.getD hd
    have e1 := y xs ((s1.trans s2).seqT q)
    rw [hv] at e1
    cases e1
    exact ⟨G1, Grow.refl s2 t, rv.mono s1⟩
theorem walks_str {s : List Nat} : Walks C G (Its ⟨s.toArray⟩) (s.map fun c => D.str [c]) where
  go := fun i G1 H hi s1 s2 => by
    show i < s.toArray.size
    simpa using hi
  stop := fun i G1 H hi s1 s2 => by
    show s.toArray.size ≤ i
    simpa using hi
  yld := fun i d G1 H H' x hd s1 s2 t y => by
    obtain ⟨rfl, c, hc, rfl⟩ := y
    refine ⟨G1, Grow.refl s2 t, ?_⟩
    rw [List.getElem?_map] at hd
    have hc' : s[i]? = some c := by simpa using hc
    rw [hc'] at hd
    cases hd
    exact .str [c]
theorem tE_one {f : List D → Option (List D)} {x : Ex} {rs : List Rv} {e1 : Env'} (h : evs [x] e = some (rs, e1)) : ∃ r, ev x e = some (r, e1) ∧ rs = [r] := by
  unfold evs at h
  split at h
  · rename_i r e2 q
    unfold evs at h
    cases h
    exact ⟨r, q, rfl⟩
  · cases h
theorem settles_one {r : Rv} {ds : List D} {e1 e2 : Env'} (h : settles e1 [r] = some (ds, e2)) : ∃ d, r.settle e1 = some (d, e2) ∧ ds = [d] := by
  unfold settles at h
  split at h
  · rename_i d e3 q
    unfold settles at h
    cases h
    exact ⟨d, q, rfl⟩
  · cases h
/-- a list -/
def listF : List D → Option (List D) := fun ds => match ds with
  | [.lst l] => some l
  | _ => none
def tupF : List D → Option (List D) := fun ds => match ds with
  | [.tup l] => some l
  | _ => none
def strF : List D → Option (List D) := fun ds => match ds with
  | [.str s] => some (s.map fun c => .str [c])
  | _ => none
variable {tg a : Expr} {x : Ex}
theorem ci_list (hK : C.K = X.K) (ha : PE X a (tE C x)) : PI X tg a (tI C listF [x]) := (pi_list ha).imp fun σ H R q => by
  obtain ⟨F, G0, G, pn, e, rs, e1, ds, e2, items, Rr, q1, q2, q3, k⟩ := q
  obtain ⟨r, q4, rfl⟩ := tE_one (f := listF) q1
  obtain ⟨d, q5, rfl⟩ := settles_one q2
  refine ⟨F, G0, G, pn, e, r, e1, Rr, q4, fun v G1 H1 R1 s1 rv => ?_⟩
  obtain ⟨G2, s2, R2, r2, _⟩ := R1.settle rv q5
  unfold listF at q3
  split at q3
  · rename_i l hl
    cases hl
    cases q3
    cases r2 with
    | lst qq rr =>
      refine ⟨_, rfl, ⟨_, SqL.of (R2.gh _ _ qq)⟩, ?_⟩
      rw [← hK]
      exact k _ G2 H1 R2 (s1.trans s2) (walks_list (SqL.of qq) rr)
  · cases q3
theorem ci_tup (hK : C.K = X.K) (ha : PE X a (tE C x)) : PI X tg a (tI C tupF [x]) := (pi_tup ha).imp fun σ H R q => by
  obtain ⟨F, G0, G, pn, e, rs, e1, ds, e2, items, Rr, q1, q2, q3, k⟩ := q
  obtain ⟨r, q4, rfl⟩ := tE_one (f := tupF) q1
  obtain ⟨d, q5, rfl⟩ := settles_one q2
  refine ⟨F, G0, G, pn, e, r, e1, Rr, q4, fun v G1 H1 R1 s1 rv => ?_⟩
  obtain ⟨G2, s2, R2, r2, _⟩ := R1.settle rv q5
  unfold tupF at q3
  split at q3
  · rename_i l hl
    cases hl
    cases q3
    cases r2 with
    | tup qq rr =>
      refine ⟨_, rfl, ⟨_, SqT.of (R2.gh _ _ qq)⟩, ?_⟩
      rw [← hK]
      exact k _ G2 H1 R2 (s1.trans s2) (walks_tup (SqT.of qq) rr)
  · cases q3
theorem ci_str (ha : PE X a (tE C x)) : PI X tg a (tI C strF [x]) := (pi_str ha).imp fun σ H R q => by
  obtain ⟨F, G0, G, pn, e, rs, e1, ds, e2, items, Rr, q1, q2, q3, k⟩ := q
  obtain ⟨r, q4, rfl⟩ := tE_one (f := strF) q1
  obtain ⟨d, q5, rfl⟩ := settles_one q2
  refine ⟨F, G0, G, pn, e, r, e1, Rr, q4, fun v G1 H1 R1 s1 rv => ?_⟩
  obtain ⟨G2, s2, R2, r2, _⟩ := R1.settle rv q5
  unfold strF at q3
  split at q3
  · rename_i l hl
    cases hl
    cases q3
    cases r2 with
    | str s => exact ⟨_, rfl, k _ G2 H1 R2 (s1.trans s2) walks_str⟩
  · cases q3
def rangeL (a : Int) (n : Nat) (c : Int) : List D := (List.range n).map fun (i : Nat) => D.int (a + (i : Int) * c)
theorem rangeL_get {a c : Int} {n i : Nat} {d : D} (h : (rangeL a n c)[i]? = some d) : d = .int (a + (i : Int) * c) := by
  unfold rangeL at h
  rw [List.getElem?_map] at h
  cases q : (List.range n)[i]? with
  | none => rw [q] at h; cases h
  | some j =>
    rw [q] at h
    cases h
    have : j = i := by
      have := (List.getElem?_eq_some_iff.mp q).2
      simpa using this.symm
    rw [this]
def range1F : List D → Option (List D) := fun ds => match ds with
  | [.int n] => if n < 4611686018427387904 ∧ -4611686018427387904 ≤ n then some (rangeL 0 n.toNat 1) else none
  | _ => none
def range2F : List D → Option (List D) := fun ds => match ds with
  | [.int a, .int b] => if (a < 4611686018427387904 ∧ -4611686018427387904 ≤ a) ∧ (b < 4611686018427387904 ∧ -4611686018427387904 ≤ b) then some (rangeL a (b - a).toNat 1) else none
  | _ => none
/-- a step of -1 -/
def rangeDF : List D → Option (List D) := fun ds => match ds with
  | [.int a, .int b, .int c] => if c = -1 ∧ (a < 4611686018427387904 ∧ -4611686018427387904 ≤ a) ∧ (b < 4611686018427387904 ∧ -4611686018427387904 ≤ b) then some (rangeL a (a - b).toNat (-1)) else none
  | _ => none
theorem walks_r {lo : Int} {n : Nat} : Walks C G (Itr lo n) (rangeL lo n 1) where
  go := fun i G1 H hi s1 s2 => by
    show i < n
    simpa [rangeL] using hi
  stop := fun i G1 H hi s1 s2 => by
    show n ≤ i
    simpa [rangeL] using hi
  yld := fun i d G1 H H' x hd s1 s2 t y => by
    obtain ⟨rfl, rfl⟩ := y
    rw [rangeL_get hd, Int.mul_one]
    exact ⟨G1, Grow.refl s2 t, .int _⟩
theorem walks_rC {lo c : Int} {n : Nat} : Walks C G (Itc lo c n) (rangeL lo n c) where
  go := fun i G1 H hi s1 s2 => by
    show i < n
    simpa [rangeL] using hi
  stop := fun i G1 H hi s1 s2 => by
    show n ≤ i
    simpa [rangeL] using hi
  yld := fun i d G1 H H' x hd s1 s2 t y => by
    obtain ⟨rfl, rfl⟩ := y
    rw [rangeL_get hd]
    exact ⟨G1, Grow.refl s2 t, .int _⟩
/-- the arguments' values, all scalars -/
theorem tA_ints {f : List D → Option (List D)} {xs : List Ex} {σ : St} {H : Hp} {R : It → Hp → Prop} {T : List V → Hp → Prop} (q : tI C f xs σ H R)
    (h : ∀ (vs : List V) (ds : List D) (items : List D) (G1 H1 : Hp), RepL C.K G1 vs ds → f ds = some items → (∀ J, (∀ G', Walks C G' J items) → R J H1) → T vs H1) : tA C xs σ H T := by
  obtain ⟨F, G0, G, pn, e, rs, e1, ds, e2, items, Rr, q1, q2, q3, k⟩ := q
  refine ⟨F, G0, G, pn, e, rs, e1, Rr, q1, fun vs G1 H1 R1 s1 r1 => ?_⟩
  obtain ⟨G2, s2, R2, r2, _⟩ := Rel.settles R1 r1 q2
  exact h vs ds items G2 H1 r2 q3 fun J w => k J G2 H1 R2 (s1.trans s2) (w G2)
variable {b c : Expr} {y z : Ex} {p pos : Pos}
theorem ci_range1 (hg : Gl X "range") (hm : X.mg "range" = none) (ha : PA X [a] (tA C [x])) (hs : starEach [a] X.env = [(false, eval a X.env)] := by rfl) : PI X tg (.Call (.Name "range" p) [a] [] pos) (tI C range1F [x]) := (pi_range1 hg hm ha hs).imp fun σ H R q => by
  refine tA_ints q fun vs ds items G1 H1 r h k => ?_
  unfold range1F at h
  split at h
  · split at h
    · rename_i n hn
      cases h
      cases r with
      | cons r0 rr =>
        cases r0
        cases rr
        refine ⟨n, rfl, ?_, ?_, k _ fun G' => walks_r⟩
        · have := hn.2; omega
        · have := hn.1; omega
    · cases h
  · cases h
theorem ci_range2 (hg : Gl X "range") (hm : X.mg "range" = none) (ha : PA X [a, b] (tA C [x, y])) (hs : starEach [a, b] X.env = [(false, eval a X.env), (false, eval b X.env)] := by rfl) (hs2 : starEach [b] X.env = [(false, eval b X.env)] := by rfl) :
    PI X tg (.Call (.Name "range" p) [a, b] [] pos) (tI C range2F [x, y]) := (pi_range2 hg hm ha hs hs2).imp fun σ H R q => by
  refine tA_ints q fun vs ds items G1 H1 r h k => ?_
  unfold range2F at h
  split at h
  · split at h
    · rename_i n m hn
      cases h
      cases r with
      | cons r0 rr =>
        cases r0
        cases rr with
        | cons r0 rr =>
          cases r0
          cases rr
          refine ⟨n, m, rfl, ?_, k _ fun G' => walks_r⟩
          have h1 := hn.1.1
          have h2 := hn.1.2
          have h3 := hn.2.1
          have h4 := hn.2.2
          omega
    · cases h
  · cases h
theorem ci_rangeD (hg : Gl X "range") (hm : X.mg "range" = none) (ha : PA X [a, b, c] (tA C [x, y, z])) (h : PI X tg (.Call (.Name "range" p) [a, b, c] [] pos) (iRng3 (tA C [x, y, z]))) :
    PI X tg (.Call (.Name "range" p) [a, b, c] [] pos) (tI C rangeDF [x, y, z]) := h.imp fun σ H R q => by
  refine tA_ints q fun vs ds items G1 H1 r h k => ?_
  unfold rangeDF at h
  split at h
  · split at h
    · rename_i n m c0 hn
      cases h
      cases r with
      | cons r0 rr =>
        cases r0
        cases rr with
        | cons r0 rr =>
          cases r0
          cases rr with
          | cons r0 rr =>
            cases r0
            cases rr
            obtain ⟨hc, ⟨h1, h2⟩, h3, h4⟩ := hn
            subst hc
            refine ⟨n, m, -1, (n - m).toNat, rfl, RgC.neg (by omega) (by omega) (by omega) (by omega), k _ fun G' => walks_rC⟩
    · cases h
  · cases h
end
end Mi

/-! Comprehensions, statements, functions. -/
namespace Mi
open PySem PySem.Spec PyProof.Rows L2 GxR
section
variable {X : Cx} {C : Cfg} {F G0 G G' H H' : Hp} {pn : Option (Nat × Addr)} {σ : St} {e e' : Env'} {v : V} {d : D}
/-! ### list comprehensions -/
theorem wipe_off {i : Nat} : ∀ {vs : List Nat}, i ∉ vs → (wipe σ vs)[i]? = σ[i]?
  | [], _ => rfl
  | v :: vs, h => by
    unfold wipe
    rw [List.getElem?_set_ne (fun z => h (by rw [z]; exact List.mem_cons_self))]
    exact wipe_off (fun z => h (List.mem_cons_of_mem _ z))
theorem Rel.wipe (R : Rel C F G0 G H pn σ e) {vs : List Nat} (hp : ∀ i p, pn = some (i, p) → i ∉ vs) : Rel C F G0 G H pn (L2.wipe σ vs) (wipeE e vs) := by
  have keep : ∀ {i : Nat} {b : B}, (wipeE e vs)[i]? = some b → b = .un ∨ (i ∉ vs ∧ e[i]? = some b) := fun {i b} hb => by
    by_cases hi : i ∈ vs
    · exact .inl (wipeE_in hi hb)
    · exact .inr ⟨hi, by rw [← wipeE_off hi]; exact hb⟩
  have back : ∀ {j : Nat} {p : Addr}, Own (L2.wipe σ vs) (wipeE e vs) j p → Own σ e j p := fun {j p} ⟨a1, b, a2, a3⟩ => by
    rcases keep a2 with z | ⟨hi, z⟩
    · rw [z] at a3; cases a3
    · exact ⟨by rw [← wipe_off hi]; exact a1, b, z, a3⟩
  refine ⟨R.fh, R.gh, R.gf, R.tb, fun i b hb => ?_, fun i j p h1 h2 => R.ap i j p (back h1) (back h2), fun i p hi => ?_, by rw [wipe_length, wipeE_len]; exact R.ln⟩
  · rcases keep hb with rfl | ⟨hi, z⟩
    · trivial
    · rw [wipe_off hi]; exact R.sl i b z
  · obtain ⟨k1, d', k2⟩ := R.pi i p hi
    have hv := hp i p hi
    exact ⟨by rw [wipe_off hv]; exact k1, d', by rw [wipeE_off hv]; exact k2⟩
theorem soft_at {vs : List Nat} (h : softE e vs = true) {i : Nat} (hi : i ∈ vs) : ∃ b, e[i]? = some b ∧ b.isOw = false := by
  have q := List.all_eq_true.mp h i hi
  split at q
  · rename_i b hb
    exact ⟨b, hb, by simpa using q⟩
  · cases q
/-- the outer places again -/
theorem Rel.back {G2 H2 : Hp} {vs : List Nat} {e7 : Env'} (R0 : Rel C F G0 G H pn σ e) (hs : softE e vs = true) (R : Rel C F G0 G2 H2 pn (L2.wipe σ vs) e7) (s : Same G G2) : Rel C F G0 G2 H2 pn σ (backE e e7 vs) := by
  have ll : e.length = e7.length := by rw [← R0.ln, ← R.ln, wipe_length]
  have keep : ∀ {i : Nat} {b : B}, (backE e e7 vs)[i]? = some b → (i ∈ vs ∧ e[i]? = some b ∧ b.isOw = false) ∨ (i ∉ vs ∧ e7[i]? = some b) := fun {i b} hb => by
    by_cases hi : i ∈ vs
    · obtain ⟨b2, h1, h2⟩ := soft_at hs hi
      rw [backE_in ll hi h1] at hb
      cases hb
      exact .inl ⟨hi, h1, h2⟩
    · exact .inr ⟨hi, by rw [← backE_off hi]; exact hb⟩
  have back : ∀ {j : Nat} {p : Addr}, Own σ (backE e e7 vs) j p → Own (L2.wipe σ vs) e7 j p := fun {j p} ⟨a1, b, a2, a3⟩ => by
    rcases keep a2 with ⟨_, _, z⟩ | ⟨hi, z⟩
    · rw [z] at a3; cases a3
    · exact ⟨by rw [wipe_off hi]; exact a1, b, z, a3⟩
  refine ⟨R.fh, R.gh, R.gf, R.tb, fun i b hb => ?_, fun i j p h1 h2 => R.ap i j p (back h1) (back h2), fun i p hi => ?_, by rw [backE_len, ← ll]; exact R0.ln⟩
  · rcases keep hb with ⟨_, z, zo⟩ | ⟨hi, z⟩
    · have q := R0.sl i b z
      cases b with
      | un => trivial
      | im d =>
        obtain ⟨w, k1, k2⟩ := q
        exact ⟨w, k1, k2.mono s⟩
      | ow d => cases zo
      | io d => cases zo
    · have q := R.sl i b z
      rw [wipe_off hi] at q
      exact q
  · obtain ⟨k1, d', k2⟩ := R0.pi i p hi
    have hv : i ∉ vs := fun z => by
      obtain ⟨b, h1, h2⟩ := soft_at hs z
      rw [k2] at h1
      cases h1
      cases h2
    obtain ⟨k3, d2, k4⟩ := R.pi i p hi
    exact ⟨k1, d2, by rw [backE_off hv]; exact k4⟩
/-- one more thing that stands as it is -/
theorem Rel.frame {Dp : Addr} {o : HO} (R : Rel C F G0 G H pn σ e) (hD : H Dp = some o) (gD : G Dp = none) (ho : ∀ i, ¬ Own σ e i Dp) (ht : Dp ∉ C.tt) : Rel C (upd F Dp o) (upd G0 Dp o) G H pn σ e → True := fun _ => trivial
/-- G0 at one more place -/
def noG (G : Hp) (p : Addr) : Hp := fun b => if b = p then none else G b
theorem Rel.fr1 {Dp : Addr} {o : HO} (R : Rel C F G0 G H pn σ e) (hD : H Dp = some o) (gD : G Dp = none) (fD : F Dp = none) (ho : ∀ i, ¬ Own σ e i Dp) (ht : Dp ∉ C.tt) : Rel C (upd F Dp o) (noG G0 Dp) G H pn σ e := by
  refine ⟨fun b u h => ?_, R.gh, fun b h => ?_, fun P hP => ⟨(R.tb P hP).1, (R.tb P hP).2.1, ?_⟩, fun i b hb => ?_, R.ap, R.pi, R.ln⟩
  · by_cases z : b = Dp
    · rw [z, upd_same] at h; cases h; rw [z]; exact hD
    · rw [upd_ne z] at h; exact R.fh b u h
  · unfold noG
    by_cases z : b = Dp
    · rw [if_pos z, z]; exact gD
    · rw [if_neg z]; rw [upd_ne z] at h; exact R.gf b h
  · rw [upd_ne (fun z => ht (by rw [← z]; exact hP))]; exact (R.tb P hP).2.2
  · have q := R.sl i b hb
    cases b with
    | un => trivial
    | im d => exact q
    | ow d =>
      obtain ⟨p, o', k0, k1, k2, k3, k4, k5⟩ := q
      exact ⟨p, o', k0, k1, by rw [upd_ne (fun z => ho i (by rw [← z]; exact ⟨k0, _, hb, rfl⟩))]; exact k2, k3, k4, k5⟩
    | io d =>
      obtain ⟨p, o', k0, k1, k2, k3, k4, k5⟩ := q
      exact ⟨p, o', k0, k1, by rw [upd_ne (fun z => ho i (by rw [← z]; exact ⟨k0, _, hb, rfl⟩))]; exact k2, k3, k4, k5⟩
/-- .. left, changed -/
theorem Rel.un1 {Dp : Addr} {o o' : HO} (R : Rel C (upd F Dp o) (noG G0 Dp) G H pn σ e) (fD : F Dp = none) (ht : Dp ∉ C.tt) : H Dp = some o ∧ G Dp = none ∧ (∀ i, ¬ Own σ e i Dp) ∧ Rel C F G0 G (upd H Dp o') pn σ e := by
  have gD : G Dp = none := by
    have q := R.gf Dp (by rw [upd_same]; exact fun z => nomatch z)
    rw [q]
    unfold noG
    rw [if_pos rfl]
  have ho : ∀ i, ¬ Own σ e i Dp := fun i ⟨a1, b, a2, a3⟩ => by
    have q := R.sl i b a2
    rw [a1] at q
    cases b with
    | un => cases a3
    | im d => cases a3
    | ow d =>
      obtain ⟨p, o', k0, k1, k2, _⟩ := q
      cases k0
      rw [upd_same] at k2
      cases k2
    | io d =>
      obtain ⟨p, o', k0, k1, k2, _⟩ := q
      cases k0
      rw [upd_same] at k2
      cases k2
  refine ⟨R.fh Dp o upd_same, gD, ho, ⟨fun b u h => ?_, fun b u h => ?_, fun b h => ?_, fun P hP => ⟨?_, (R.tb P hP).2.1, ?_⟩, fun i b hb => ?_, R.ap, R.pi, R.ln⟩⟩
  · have hb := ne_of_none h fD
    rw [upd_ne hb]
    exact R.fh b u (by rw [upd_ne hb]; exact h)
  · rw [upd_ne (ne_of_none h gD)]; exact R.gh b u h
  · have hb : b ≠ Dp := fun z => h (by rw [z]; exact fD)
    have q := R.gf b (by rw [upd_ne hb]; exact h)
    rw [q]
    unfold noG
    rw [if_neg hb]
  · obtain ⟨ps, h1, h2⟩ := (R.tb P hP).1
    exact ⟨ps, by rw [upd_ne (fun z => ht (by rw [← z]; exact hP))]; exact h1, h2⟩
  · have q := (R.tb P hP).2.2
    rw [upd_ne (fun z => ht (by rw [← z]; exact hP))] at q
    exact q
  · have q := R.sl i b hb
    cases b with
    | un => trivial
    | im d => exact q
    | ow d =>
      obtain ⟨p, o', k0, k1, k2, k3, k4, k5⟩ := q
      have hp : p ≠ Dp := fun z => ho i (by rw [← z]; exact ⟨k0, _, hb, rfl⟩)
      rw [upd_ne hp] at k2
      exact ⟨p, o', k0, k1, k2, k3, by rw [upd_ne hp]; exact k4, k5⟩
    | io d =>
      obtain ⟨p, o', k0, k1, k2, k3, k4, k5⟩ := q
      have hp : p ≠ Dp := fun z => ho i (by rw [← z]; exact ⟨k0, _, hb, rfl⟩)
      rw [upd_ne hp] at k2
      exact ⟨p, o', k0, k1, k2, k3, by rw [upd_ne hp]; exact k4, k5⟩
/-- the tests of a comprehension -/
def tTs (C : Cfg) (cs : List Ex) : TT := fun σ H Q => ∃ (F G0 G : Hp) (pn : Option (Nat × Addr)) (e : Env') (e' : Env') (b : Bool), Rel C F G0 G H pn σ e ∧ evt cs e = some (b, e') ∧ ∀ G' H', Rel C F G0 G' H' pn σ e' → Same G G' → Q b H'
theorem _root_.L2.PTs.imp {ifs : List Expr} {t t' : TT} (h : PTs X ifs t) (k : ∀ σ H Q, t' σ H Q → t σ H Q) : PTs X ifs t' := ⟨fun pins s σ H Q I q => h.run pins s σ H Q I (k σ H Q q)⟩
theorem cts_nil : PTs X [] (tTs C []) := pts_nil.imp fun σ H Q q => by
  obtain ⟨F, G0, G, pn, e, e', b, R, he, k⟩ := q
  unfold evt at he
  cases he
  exact k G H R (Same.refl G)
theorem cts_one {c : Expr} {x : Ex} (h : PT X c (tT C x)) : PTs X [c] (tTs C [x]) := (pts_one h).imp fun σ H Q q => by
  obtain ⟨F, G0, G, pn, e, e', b, R, he, k⟩ := q
  unfold evt at he
  split at he
  · rename_i r e1 q1
    split at he
    · rename_i d q2
      split at he
      · rename_i b2 q3
        cases he
        exact ⟨F, G0, G, pn, e, r, _, d, _, R, q1, q2, q3, k⟩
      · cases he
    · cases he
  · cases he
theorem ev_lc {g : List D → Option (List D)} {xs : List Ex} {vs : List Nat} {tg : Tg} {cs : List Ex} {x : Ex} {r : Rv} (h : ev (.lc g xs vs tg cs x) e = some (r, e')) :
    ∃ rs e1 ds e2 items ys e7, evs xs e = some (rs, e1) ∧ settles e1 rs = some (ds, e2) ∧ g ds = some items ∧ softE e2 vs = true ∧
      lcLoop (lcTurn tg vs (fun e => evt cs e) (fun e => ev x e)) items (wipeE e2 vs) = some (ys, e7) ∧ ys.length ≤ 16000000 ∧ r = .pers (.lst ys) ∧ e' = backE e2 e7 vs := by
  unfold ev at h
  split at h
  · rename_i rs e1 q1
    split at h
    · rename_i ds e2 q2
      split at h
      · rename_i items q3
        split at h
        · rename_i hs
          split at h
          · rename_i ys e7 q4
            split at h
            · rename_i hz
              cases h
              exact ⟨rs, e1, ds, e2, items, ys, e7, q1, q2, q3, hs, q4, hz, rfl, rfl⟩
            · cases h
          · cases h
        · cases h
      · cases h
    · cases h
  · cases h
theorem lcLoop_cons {f : D → Env' → Option (List D × Env')} {d : D} {ds : List D} {ys : List D} (h : lcLoop f (d :: ds) e = some (ys, e')) : ∃ y1 e1 y2, f d e = some (y1, e1) ∧ lcLoop f ds e1 = some (y2, e') ∧ ys = y1 ++ y2 := by
  unfold lcLoop at h
  split at h
  · rename_i y1 e1 q1
    split at h
    · rename_i y2 e2 q2
      cases h
      exact ⟨y1, e1, y2, q1, q2, rfl⟩
    · cases h
  · cases h
theorem wipe_in {i : Nat} : ∀ {vs : List Nat}, i ∈ vs → (L2.wipe σ vs)[i]? = if i < σ.length then some none else none
  | v :: vs, h => by
    unfold L2.wipe
    by_cases hv : v = i
    · subst hv
      by_cases hlt : v < σ.length
      · rw [if_pos hlt, List.getElem?_set_self (by rw [wipe_length]; exact hlt)]
      · rw [if_neg hlt, List.getElem?_eq_none (by rw [List.length_set, wipe_length]; omega)]
    · rw [List.getElem?_set_ne hv]
      rcases List.mem_cons.mp h with z | z
      · exact absurd z.symm hv
      · exact wipe_in z
theorem offS_wipe {vs l : List Nat} {σ σ' : St} (hl : ∀ i ∈ l, i ∈ vs) (o : OffS l (L2.wipe σ vs) σ') : L2.wipe σ' vs = L2.wipe σ vs := by
  have hle : σ'.length = σ.length := by rw [o.1, wipe_length]
  apply List.ext_getElem?
  intro i
  by_cases hi : i ∈ vs
  · rw [wipe_in hi, wipe_in hi, hle]
  · rw [wipe_off hi, o.2 i (fun z => hi (hl i z))]
/-- the comprehension, turn by turn; J: what is walked -/
theorem lc_turns {vs : List Nat} {tg : Tg} {cs : List Ex} {x : Ex} (hsl : ∀ i ∈ tg.slots, i ∈ vs) {σ : St} {items : List D} {J : It} {D0 : Addr} {G1 : Hp} {ys : List D} {e7 : Env'} {Qd : Hp → Prop}
    (W1 : Walks C G1 J items) (fD : F D0 = none) (tD : D0 ∉ C.tt) (hp : ∀ i p, pn = some (i, p) → i ∉ vs) (hz : ys.length ≤ 16000000) {H0 : Hp} {e0 : Env'}
    (R0 : Rel C (upd F D0 (.lst [])) (noG G0 D0) G1 H0 pn (L2.wipe σ vs) e0) (hl0 : lcLoop (lcTurn tg vs (fun e => evt cs e) (fun e => ev x e)) items e0 = some (ys, e7))
    (hend : ∀ (G2 H2 : Hp) (acc : List V), Same G1 G2 → Rel C (upd F D0 (.lst acc)) (noG G0 D0) G2 H2 pn (L2.wipe σ vs) e7 → RepL C.K G2 acc ys → Qd H2) :
    ∃ W : Nat → Nat → Hp → Prop, (∃ m, W 0 m H0) ∧ ∀ i m H, W i m H →
      (J.stop i H ∧ Qd H) ∨ (J.go i H ∧ ∃ Nx : Hp → Prop, (∀ H', Nx H' → ∃ m', m' < m ∧ W (i + 1) m' H') ∧ ∀ x0 H', J.yld i H x0 H' → tG C tg x0 (L2.wipe σ vs) H' fun σ2 H2 => L2.wipe σ2 vs = L2.wipe σ vs ∧ tTs C cs σ2 H2 fun b H3 =>
        if b = true then tE C x σ2 H3 fun y H4 => ∃ acc, H4 D0 = some (.lst acc) ∧ acc.length < sizeLine ∧ Nx (upd H4 D0 (.lst (acc ++ [y]))) else Nx H3) := by
  let P : Nat → Hp → Prop := fun i H => ∃ (G2 : Hp) (e3 : Env') (acc : List V) (y1 y2 : List D), Same G1 G2 ∧ Rel C (upd F D0 (.lst acc)) (noG G0 D0) G2 H pn (L2.wipe σ vs) e3 ∧ RepL C.K G2 acc y1 ∧
    lcLoop (lcTurn tg vs (fun e => evt cs e) (fun e => ev x e)) (items.drop i) e3 = some (y2, e7) ∧ y1 ++ y2 = ys ∧ i ≤ items.length
  refine ⟨fun i m H => m = items.length - i ∧ P i H, ⟨_, rfl, G1, e0, [], [], ys, Same.refl G1, R0, .nil, hl0, rfl, Nat.zero_le _⟩, ?_⟩
  rintro i m H2 ⟨rfl, G2, e3, acc, y1, y2, s2, R2, ra, hl, hy, hi⟩
  by_cases hlt : i < items.length
  · refine .inr ⟨W1.go i G2 H2 hlt s2 R2.gh, fun H' => P (i + 1) H', fun H' p => ⟨items.length - (i + 1), by omega, rfl, p⟩, fun x0 H3 yl => ?_⟩
    have hget : items[i]? = some items[i] := List.getElem?_eq_getElem hlt
    obtain ⟨G3, gr, rx⟩ := W1.yld i _ G2 H2 H3 x0 hget s2 R2.gh R2.tabs yl
    have R3 := R2.grow gr
    rw [List.drop_eq_getElem_cons hlt] at hl
    obtain ⟨y3, e4, y4, t1, t2, rfl⟩ := lcLoop_cons hl
    unfold lcTurn at t1
    have hacc : ∀ y : List D, acc.length + y.length = (y1 ++ y).length := fun y => by rw [ra.length, List.length_append]
    split at t1
    · rename_i e5 b1
      refine ⟨_, _, G3, pn, e3, _, e5, R3, rx, b1, fun σ5 R5 o5 => ?_⟩
      have hw := offS_wipe hsl o5
      refine ⟨hw, ?_⟩
      split at t1
      · rename_i e6 h6
        refine ⟨_, _, G3, pn, e5, e6, true, R5, h6, fun G4 H4 R4 s4 => iteT ?_⟩
        split at t1
        · rename_i r7 e8 h7
          split at t1
          · rename_i y e9 h8
            cases t1
            refine ⟨_, _, G4, pn, e6, r7, e8, R4, h7, fun v G5 H5 R5' s5 rv => ?_⟩
            obtain ⟨G6, s6, R6, r6, _⟩ := R5'.settle rv h8
            obtain ⟨u1, u2, u3, u4⟩ := R6.un1 (o' := .lst (acc ++ [v])) fD tD
            have s26 : Same G2 G6 := ((gr.gg.trans s4).trans s5).trans s6
            refine ⟨acc, u1, ?_, G6, wipeE e9 vs, acc ++ [v], y1 ++ [y], y4, s2.trans s26, ?_, (ra.mono s26).append (.cons r6 .nil), t2, ?_, by omega⟩
            · have h9 := lim16 hz
              rw [← hy] at h9
              have : acc.length < (y1 ++ ([y] ++ y4)).length := by
                rw [List.length_append, List.length_append, ra.length]
                simp only [List.length_cons, List.length_nil]
                omega
              omega
            · have R7 := (u4.fr1 (o := .lst (acc ++ [v])) upd_same u2 fD u3 tD).wipe hp
              rw [hw] at R7
              exact R7
            · rw [← hy, List.append_assoc]
          · cases t1
        · cases t1
      · rename_i e6 h6
        cases t1
        refine ⟨_, _, G3, pn, e5, e6, false, R5, h6, fun G4 H4 R4 s4 => iteF ?_⟩
        have s24 : Same G2 G4 := gr.gg.trans s4
        have R7 := R4.wipe hp
        rw [hw] at R7
        exact ⟨G4, wipeE e6 vs, acc, y1, y4, s2.trans s24, R7, ra.mono s24, t2, hy, by omega⟩
      · cases t1
    · cases t1
  · have hid : items.drop i = [] := List.drop_eq_nil_of_le (by omega)
    rw [hid] at hl
    unfold lcLoop at hl
    cases hl
    rw [List.append_nil] at hy
    subst hy
    exact .inl ⟨W1.stop i G2 H2 (by omega) s2 R2.gh, hend G2 H2 acc s2 R2 ra⟩
theorem tLc_of {g : List D → Option (List D)} {xs : List Ex} {vs : List Nat} {tg : Tg} {cs : List Ex} {x : Ex} (hsl : ∀ i ∈ tg.slots, i ∈ vs) {σ : St} {H : Hp} {Q : VK} (q : tF C (.lc g xs vs tg cs x) σ H Q) : tLc (tI C g xs) (tG C tg) (tTs C cs) (tE C x) vs σ H Q := by
  obtain ⟨F, G0, G, pn, e, dd, e', R, he, k⟩ := q
  obtain ⟨rs, e1, ds, e2, items, ys, e7, q1, q2, q3, hs, q4, hz, q5, rfl⟩ := ev_lc he
  cases q5
  refine ⟨F, G0, G, pn, e, rs, e1, ds, e2, items, R, q1, q2, q3, fun J G1 H1 R1 s1 W1 => ?_⟩
  intro D0 hD
  have fD : F D0 = none := R1.fh.free hD
  have tD : D0 ∉ C.tt := fun z => tabG_some (R1.tb D0 z).1 hD
  have hp : ∀ i p, pn = some (i, p) → i ∉ vs := fun i p hi z => by
    obtain ⟨_, d', k2⟩ := R1.pi i p hi
    obtain ⟨b, h1, h2⟩ := soft_at hs z
    rw [k2] at h1
    cases h1
    cases h2
  have Rw := R1.wipe hp
  have Rn := Rw.grow (grow_own (o := .lst []) Rw.gh Rw.tabs hD)
  have R0 := Rn.fr1 (o := .lst []) upd_same (R1.gh.free hD) fD (fun i ⟨a1, b, a2, a3⟩ => by
    have q := Rw.sl i b a2
    rw [a1] at q
    cases b with
    | un => cases a3
    | im d => cases a3
    | ow d => obtain ⟨p, o, z, _, _, _, k4, _⟩ := q; cases z; rw [hD] at k4; cases k4
    | io d => obtain ⟨p, o, z, _, _, _, k4, _⟩ := q; cases z; rw [hD] at k4; cases k4) tD
  refine lc_turns hsl W1 fD tD hp hz R0 q4 fun G2 H2 acc s2 R2 ra => ?_
  obtain ⟨u1, u2, u3, u4⟩ := R2.un1 (o' := .lst acc) fD tD
  have hsame : upd H2 D0 (.lst acc) = H2 := by
    funext b
    by_cases z : b = D0
    · rw [z, upd_same, u1]
    · rw [upd_ne z]
  rw [hsame] at u4
  have Rb := R1.back hs u4 s2
  refine k D0 (.lst acc) G2 H2 Rb (s1.trans s2) u2 fD tD (fun i ⟨a1, b, a2, a3⟩ => ?_) u1 (.lst ra)
  have ll : e2.length = e7.length := by rw [← R1.ln, ← u4.ln, wipe_length]
  by_cases hi : i ∈ vs
  · obtain ⟨b2, h1, h2⟩ := soft_at hs hi
    rw [backE_in ll hi h1] at a2
    cases a2
    rw [h2] at a3
    cases a3
  · rw [backE_off hi] at a2
    exact u3 i ⟨by rw [wipe_off hi]; exact a1, b, a2, a3⟩
variable {elt tgx iter : Expr} {ifs : List Expr} {scope : Scope} {own : List (Str × Nat)} {pos : Pos} {g : List D → Option (List D)} {xs : List Ex} {tg : Tg} {cs : List Ex} {x : Ex}
theorem cf_lc (hc : X.calm = true) (hN : X.N.Nodup) (hi : PI X tgx iter (tI C g xs)) (ok : BlkOk X.N X.env.scope scope own)
    (hg : ∀ (s : Shared) (H : Hp) (Cc : Addr) (cl : List (Str × Addr)) (fp : List Addr), PG (X.blk s H scope (compEnvC scope cl Cc X.env) fp) tgx (tG C tg)) (ht : ∀ (s : Shared) (H : Hp) (Cc : Addr) (cl : List (Str × Addr)) (fp : List Addr), PTs (X.blk s H scope (compEnvC scope cl Cc X.env) fp) ifs (tTs C cs))
    (he : ∀ (s : Shared) (H : Hp) (Cc : Addr) (cl : List (Str × Addr)) (fp : List Addr), PE (X.blk s H scope (compEnvC scope cl Cc X.env) fp) elt (tE C x)) (hsl : (tg.slots.all fun i => (own.map (·.2)).contains i) = true) (hs : ∀ x, foldedSetIterable iter X.env x = pure x := by intro _; rfl) :
    PE X (.ListComp elt [⟨tgx, iter, ifs, 0⟩] scope pos) (tF C (.lc g xs (own.map (·.2)) tg cs x)) := (pe_lc hc hN hi ok hg ht he hs).imp fun σ H Q q => tLc_of (fun i hi => by
  have := List.all_eq_true.mp hsl i hi
  exact List.contains_iff_mem.mp this) q
theorem cf_ce {a : Expr} (h : PE X a (tF C x)) (hx : ∀ e r e', ev x e = some (r, e') → ∃ d, r = .pers d) : PE X a (tE C x) := h.imp fun σ H Q q => tF_tE q hx
theorem lc_pers : ∀ e r e', ev (.lc g xs vs tg cs x) e = some (r, e') → ∃ d, r = .pers d := fun e r e' h => by
  obtain ⟨_, _, _, _, _, ys, _, _, _, _, _, _, _, h2, _⟩ := ev_lc h
  exact ⟨_, h2⟩
theorem op_pers {f : List D → Option D} : ∀ e r e', ev (.op f xs) e = some (r, e') → ∃ d, r = .pers d := fun e r e' h => by
  obtain ⟨_, _, d, _, _, _, h2⟩ := ev_op h
  exact ⟨d, h2⟩
theorem mk_pers {f : List D → Option D} : ∀ e r e', ev (.mk f xs) e = some (r, e') → ∃ d, r = .pers d := fun e r e' h => by
  obtain ⟨_, _, _, d, _, _, _, h2⟩ := ev_mk h
  exact ⟨d, h2⟩
end
end Mi

/-! Statements, functions. -/
namespace Mi
open PySem PySem.Spec PyProof.Rows L2 GxR
def OutOk (C : Cfg) (F G0 G : Hp) (pn : Option (Nat × Addr)) (D : Ends) : Out → Prop
  | .nx e' => ∀ σ' G' H', Rel C F G0 G' H' pn σ' e' → Same G G' → D.nx σ' H'
  | .rt d e' => ∀ v σ' G' H', Rel C F G0 G' H' pn σ' e' → Same G G' → Rep C.K G' v d → D.rt v H'
  | .bk e' => ∀ σ' G' H', Rel C F G0 G' H' pn σ' e' → Same G G' → D.bk σ' H'
  | .ct e' => ∀ σ' G' H', Rel C F G0 G' H' pn σ' e' → Same G G' → D.ct σ' H'
def tS (C : Cfg) (s : S) : TS := fun D σ H => ∃ (F G0 G : Hp) (pn : Option (Nat × Addr)) (e : Env') (o : Out), Rel C F G0 G H pn σ e ∧ ex s e = some o ∧ OutOk C F G0 G pn D o
section
variable {X : Cx} {C : Cfg} {F G0 G G' H H' : Hp} {pn : Option (Nat × Addr)} {σ : St} {e e' : Env'} {v : V} {d : D} {st : Stmt} {rest : List Stmt} {a b c : Expr} {x y z : Ex} {s t : S} {pos : Pos}
theorem OutOk.mono {D : Ends} {o : Out} (s : Same G G') (h : OutOk C F G0 G pn D o) : OutOk C F G0 G' pn D o := by
  cases o with
  | nx e' => exact fun σ' G2 H' R q => h σ' G2 H' R (s.trans q)
  | rt d e' => exact fun v σ' G2 H' R q => h v σ' G2 H' R (s.trans q)
  | bk e' => exact fun σ' G2 H' R q => h σ' G2 H' R (s.trans q)
  | ct e' => exact fun σ' G2 H' R q => h σ' G2 H' R (s.trans q)
theorem css_nil : PSs X [] (tS C .skip) := pss_nil.imp fun D σ H q => by
  obtain ⟨F, G0, G, pn, e, o, R, he, k⟩ := q
  cases he
  exact k σ G H R (Same.refl G)
theorem css_cons (h1 : PS X st (tS C s)) (h2 : PSs X rest (tS C t)) : PSs X (st :: rest) (tS C (.seq s t)) := (pss_cons h1 h2).imp fun D σ H q => by
  obtain ⟨F, G0, G, pn, e, o, R, he, k⟩ := q
  unfold ex at he
  split at he
  · rename_i e1 q1
    exact ⟨F, G0, G, pn, e, .nx e1, R, q1, fun σ1 G1 H1 R1 s1 => ⟨F, G0, G1, pn, e1, o, R1, he, k.mono s1⟩⟩
  · rename_i o1 hno q1
    cases he
    refine ⟨F, G0, G, pn, e, o, R, q1, ?_⟩
    cases o with
    | nx e1 => exact absurd rfl (hno e1)
    | rt d e1 => exact k
    | bk e1 => exact k
    | ct e1 => exact k
  · cases he
theorem css_one (h1 : PS X st (tS C s)) : PSs X [st] (tS C s) := pss_one h1
theorem cs_pass : PS X (.Pass pos) (tS C .skip) := ps_pass.imp fun D σ H q => by
  obtain ⟨F, G0, G, pn, e, o, R, he, k⟩ := q
  cases he
  exact k σ G H R (Same.refl G)
theorem cs_brk : PS X (.Break pos) (tS C .brk) := ps_break.imp fun D σ H q => by
  obtain ⟨F, G0, G, pn, e, o, R, he, k⟩ := q
  cases he
  exact k σ G H R (Same.refl G)
theorem cs_cnt : PS X (.Continue pos) (tS C .cnt) := ps_continue.imp fun D σ H q => by
  obtain ⟨F, G0, G, pn, e, o, R, he, k⟩ := q
  cases he
  exact k σ G H R (Same.refl G)
theorem cs_never : PS X st (tS C .never) := (ps_never (X := X) (st := st)).imp fun D σ H q => by
  obtain ⟨F, G0, G, pn, e, o, R, he, k⟩ := q
  cases he
theorem cs_exp (ha : PE X a (tE C x)) (hs : swapsWith a none pos.line X.env = pure false := by rfl) : PS X (.Expr a pos) (tS C (.exp x)) := (ps_expr ha hs).imp fun D σ H q => by
  obtain ⟨F, G0, G, pn, e, o, R, he, k⟩ := q
  unfold ex at he
  split at he
  · rename_i r e1 q1
    cases he
    exact ⟨F, G0, G, pn, e, r, e1, R, q1, fun v G1 H1 R1 s1 _ => k σ G1 H1 R1 s1⟩
  · cases he
theorem cs_ret (ha : PE X a (tE C x)) : PS X (.Return (some a) pos) (tS C (.ret x)) := (ps_ret ha).imp fun D σ H q => by
  obtain ⟨F, G0, G, pn, e, o, R, he, k⟩ := q
  unfold ex at he
  split at he
  · rename_i r e1 q1
    split at he
    · rename_i d e2 q2
      cases he
      refine ⟨F, G0, G, pn, e, r, e1, R, q1, fun v G1 H1 R1 s1 rv => ?_⟩
      obtain ⟨G2, s2, R2, r2, _⟩ := R1.settle rv q2
      exact k v σ G2 H1 R2 (s1.trans s2) r2
    · cases he
  · cases he
theorem cs_retN : PS X (.Return none pos) (tS C .retN) := ps_retN.imp fun D σ H q => by
  obtain ⟨F, G0, G, pn, e, o, R, he, k⟩ := q
  cases he
  exact k .non σ G H R (Same.refl G) .non
theorem cs_if {l m : List Stmt} (hc : PT X c (tT C z)) (ha : PSs X l (tS C s)) (hb : PSs X m (tS C t)) : PS X (.If c l m pos) (tS C (.iff z s t)) := (ps_if hc ha hb).imp fun D σ H q => by
  obtain ⟨F, G0, G, pn, e, o, R, he, k⟩ := q
  unfold ex at he
  split at he
  · rename_i r e1 q1
    split at he
    · rename_i d q2
      split at he
      · rename_i q3
        exact ⟨F, G0, G, pn, e, r, e1, d, true, R, q1, q2, q3, fun G1 H1 R1 s1 => iteT ⟨F, G0, G1, pn, e1, o, R1, he, k.mono s1⟩⟩
      · rename_i q3
        exact ⟨F, G0, G, pn, e, r, e1, d, false, R, q1, q2, q3, fun G1 H1 R1 s1 => iteF ⟨F, G0, G1, pn, e1, o, R1, he, k.mono s1⟩⟩
      · cases he
    · cases he
  · cases he
/-! ### stores -/
theorem set_of {te : TE} {g : TG} {tg : Tg} (hte : ∀ σ H Q, tE C x σ H Q → te σ H Q) (hg : ∀ v σ H Q, tG C tg v σ H Q → g v σ H Q) {D : Ends} {σ : St} {H : Hp} (q : tS C (.set tg x) D σ H) : tAsg te g D σ H := by
  obtain ⟨F, G0, G, pn, e, o, R, he, k⟩ := q
  unfold ex at he
  split at he
  · rename_i r e1 q1
    split at he
    · rename_i d e2 q2
      split at he
      · rename_i e3 q3
        cases he
        refine hte _ _ _ ⟨F, G0, G, pn, e, r, e1, R, q1, fun v G1 H1 R1 s1 rv => hg _ _ _ _ ?_⟩
        obtain ⟨G2, s2, R2, r2, _⟩ := R1.settle rv q2
        exact ⟨F, G0, G2, pn, e2, d, e3, R2, r2, q3, fun σ3 R3 _ => k σ3 G2 H1 R3 (s1.trans s2)⟩
      · cases he
    · cases he
  · cases he
theorem cs_asg {tgx : Expr} {tg : Tg} (ha : PE X a (tE C x)) (hg : PG X tgx (tG C tg)) (hs : swapsWithSole [tgx] a pos.line X.env = pure false := by rfl) (hw : swappedStores [tgx] a X.env = pure none := by rfl)
    (h1 : (assignEach [tgx] X.env).map (·.2) = [assign tgx X.env] := by rfl) : PS X (.Assign [tgx] a pos) (tS C (.set tg x)) := (ps_asg ha hg hs hw h1).imp fun D σ H q => set_of (fun _ _ _ h => h) (fun _ _ _ _ h => h) q
theorem gName_of {i : Nat} (v : V) (σ : St) (H : Hp) (Q : St → Hp → Prop) (q : tG C (.nm i) v σ H Q) : gName i v σ H Q := by
  obtain ⟨F, G0, G, pn, e, d, e', R, r, hb, k⟩ := q
  obtain ⟨b0, h0, hn, rfl⟩ := bind_nm hb
  exact k _ (R.put h0 hn r) ⟨List.length_set, fun j hj => List.getElem?_set_ne (fun z => hj (by subst z; exact List.mem_cons_self))⟩
theorem cs_name {i : Nat} {nm : Str} {pos' : Pos} (h : ∀ {te : TE}, PE X a te → PS X (.Assign [.Name nm pos'] a pos) (tAsg te (gName i))) (ha : PE X a (tE C x)) : PS X (.Assign [.Name nm pos'] a pos) (tS C (.set (.nm i) x)) :=
  (h ha).imp fun D σ H q => set_of (fun _ _ _ h => h) gName_of q
/-- an own thing comes to a place -/
theorem Rel.putO (R : Rel C F G0 G H pn σ e) {i : Nat} {b0 : B} {p : Addr} {o : HO} (h0 : e[i]? = some b0) (hn : ∀ d, b0 ≠ .io d) (gp : G p = none) (fp : F p = none) (tp : p ∉ C.tt) (ho : ∀ j, ¬ Own σ e j p) (hp : H p = some o) (r : RepO C.K G o d) :
    Rel C F G0 G H pn (σ.set i (some (.ref p))) (e.set i (.ow d)) := by
  have hi : i < e.length := (List.getElem?_eq_some_iff.mp h0).1
  have his : i < σ.length := by rw [R.ln]; exact hi
  have back : ∀ {j : Nat} {p' : Addr}, Own (σ.set i (some (.ref p))) (e.set i (.ow d)) j p' → (j = i ∧ p' = p) ∨ (j ≠ i ∧ Own σ e j p') := fun {j p'} ⟨a1, b, a2, a3⟩ => by
    by_cases hj : i = j
    · subst hj
      rw [List.getElem?_set_self his] at a1
      cases a1
      exact .inl ⟨rfl, rfl⟩
    · rw [List.getElem?_set_ne hj] at a1 a2
      exact .inr ⟨fun z => hj z.symm, a1, b, a2, a3⟩
  refine ⟨R.fh, R.gh, R.gf, R.tb, fun j b hb => ?_, fun j k p' h1 h2 => ?_, fun j p' hj => ?_, by rw [List.length_set, List.length_set]; exact R.ln⟩
  · by_cases hj : i = j
    · subst hj
      rw [List.getElem?_set_self hi] at hb
      cases hb
      exact ⟨p, o, List.getElem?_set_self his, gp, fp, tp, hp, r⟩
    · rw [List.getElem?_set_ne hj] at hb
      rw [List.getElem?_set_ne hj]
      exact R.sl j b hb
  · rcases back h1 with ⟨rfl, rfl⟩ | ⟨hj, o1⟩
    · rcases back h2 with ⟨rfl, _⟩ | ⟨hk, o2⟩
      · rfl
      · exact absurd o2 (ho k)
    · rcases back h2 with ⟨rfl, rfl⟩ | ⟨hk, o2⟩
      · exact absurd o1 (ho j)
      · exact R.ap j k p' o1 o2
  · obtain ⟨k1, d', k2⟩ := R.pi j p' hj
    have hne : i ≠ j := fun z => by
      subst z
      rw [h0] at k2
      exact hn d' (Option.some.inj k2)
    exact ⟨by rw [List.getElem?_set_ne hne]; exact k1, d', by rw [List.getElem?_set_ne hne]; exact k2⟩
theorem setO_of {te : TE} {i : Nat} (hte : ∀ σ H Q, tF C x σ H Q → te σ H Q) {D : Ends} {σ : St} {H : Hp} (q : tS C (.setO i x) D σ H) : tAsg te (gName i) D σ H := by
  obtain ⟨F, G0, G, pn, e, o, R, he, k⟩ := q
  unfold ex at he
  split at he
  · rename_i d e1 q1
    have fin : ∀ {b0 : B}, e1[i]? = some b0 → (∀ d, b0 ≠ .io d) → o = .nx (e1.set i (.ow d)) → tAsg te (gName i) D σ H := fun {b0} h0 hn ho => by
      subst ho
      exact hte _ _ _ ⟨F, G0, G, pn, e, d, e1, R, q1, fun p o G1 H1 R1 s1 g1 f1 t1 o1 h1 r1 => k _ G1 H1 (R1.putO h0 hn g1 f1 t1 o1 h1 r1) s1⟩
    split at he
    · cases he
    · rename_i b0 hnio h0
      cases he
      exact fin h0 (fun d z => hnio d z) rfl
    · cases he
  · cases he
theorem cs_nameO {i : Nat} {nm : Str} {pos' : Pos} (h : ∀ {te : TE}, PE X a te → PS X (.Assign [.Name nm pos'] a pos) (tAsg te (gName i))) (ha : PE X a (tF C x)) : PS X (.Assign [.Name nm pos'] a pos) (tS C (.setO i x)) :=
  (h ha).imp fun D σ H q => setO_of (fun _ _ _ h => h) q
/-- a, b = e1, e2 -/
theorem cs_par {i j : Nat} {nx ny : Str} {px py pt : Pos} {kt k2 : Nat} {pt2 : Pos} (hc : X.calm = true) (hN : X.N.Nodup) (hi : X.N[i]? = some nx) (hj : X.N[j]? = some ny) (hij : i ≠ j)
    (hx : X.env.scope.names.lookup nx = some .local) (hy : X.env.scope.names.lookup ny = some .local) (ha : PA X [a, b] (tA C [x, y]))
    (hw : swappedStores [.Tuple [.Name nx px, .Name ny py] kt pt] (.Tuple [a, b] k2 pt2) X.env = pure (some [nx, ny]))
    (hs : swapsWithSole [.Tuple [.Name nx px, .Name ny py] kt pt] (.Tuple [a, b] k2 pt2) pos.line X.env = pure false := by rfl) :
    PS X (.Assign [.Tuple [.Name nx px, .Name ny py] kt pt] (.Tuple [a, b] k2 pt2) pos) (tS C (.par i j x y)) := (ps_par hc hN hi hj hij hx hy ha hw hs).imp fun D σ H q => by
  obtain ⟨F, G0, G, pn, e, o, R, he, k⟩ := q
  unfold ex at he
  split at he
  · rename_i rs e1 q1
    split at he
    · rename_i d1 d2 e2 q2
      split at he
      · rename_i e3 q3
        cases he
        refine ⟨F, G0, G, pn, e, rs, e1, R, q1, fun vs G1 H1 R1 s1 r1 => ?_⟩
        obtain ⟨G2, s2, R2, r2, _⟩ := Rel.settles R1 r1 q2
        cases r2 with
        | cons ra rb =>
          cases rb with
          | cons rb rc =>
            cases rc
            refine ⟨_, _, rfl, ?_⟩
            unfold Tg.binds at q3
            split at q3
            · rename_i e4 q4
              unfold Tg.binds at q3
              split at q3
              · rename_i e5 q5
                unfold Tg.binds at q3
                cases q3
                obtain ⟨b0, h0, hn, rfl⟩ := bind_nm q4
                obtain ⟨b1, h1, hn1, rfl⟩ := bind_nm q5
                exact k _ G2 H1 ((R2.put h0 hn ra).put h1 hn1 rb) (s1.trans s2)
              · cases q3
            · cases q3
      · cases he
    · cases he
  · cases he
/-! ### a list grows -/
theorem lim16s {n : Nat} (h : n < 16000000) : n < sizeLine := by rw [sizeLine_eq]; omega
theorem growO_upd {p : Addr} {o : HO} (gh : Same G H) (t : ∀ P ∈ C.tt, TabG H P) (gp : G p = none) (tp : p ∉ C.tt) : GrowO C p G H G (upd H p o) :=
  ⟨Same.refl G, fun b u h => by rw [upd_ne (ne_of_none h gp)]; exact gh b u h, fun q hq _ _ => upd_ne hq, fun _ _ => rfl, fun P hP => by
    obtain ⟨ps, h1, h2⟩ := t P hP
    exact ⟨ps, by rw [upd_ne (fun z => tp (by rw [← z]; exact hP))]; exact h1, h2⟩⟩
theorem app_of {i : Nat} (hK : C.K = X.K) {D : Ends} {σ : St} {H : Hp} (q : tS C (.app i x) D σ H) : tDrop (tBM X.K "list" rAppend (tVar i) (tCons (tE C x) tNil)) D σ H := by
  obtain ⟨F, G0, G, pn, e, o, R, he, k⟩ := q
  unfold ex at he
  split at he
  · rename_i h0
    split at he
    · rename_i r e1 q1
      split at he
      · rename_i d e2 q2
        obtain ⟨p, xs, hv, hx⟩ : ∃ p xs, σ[i]? = some (some (.ref p)) ∧ H p = some (.lst xs) := by
          unfold lstAt at h0
          split at h0
          · rename_i l hb
            obtain ⟨p, o, z, z1, _, z3, z4, z5⟩ := R.sl i _ hb
            cases z5 with
            | lst r => exact ⟨p, _, z, z4⟩
          · rename_i l hb
            obtain ⟨p, o, z, z1, _, z3, z4, z5⟩ := R.sl i _ hb
            cases z5 with
            | lst r => exact ⟨p, _, z, z4⟩
          · cases h0
        have fin : ∀ {b b' : B} {l : List Mi.D}, e2[i]? = some b → l.length < 16000000 → ((b = .ow (.lst l) ∧ b' = .ow (.lst (l ++ [d]))) ∨ (b = .io (.lst l) ∧ b' = .io (.lst (l ++ [d])))) → o = .nx (e2.set i b') → tDrop (tBM X.K "list" rAppend (tVar i) (tCons (tE C x) tNil)) D σ H := fun {b b' l} hb hl hc ho => by
          subst ho
          refine ⟨.ref p, hv, .inl ⟨rfl, xs, SqL.of hx⟩, F, G0, G, pn, e, r, e1, R, q1, fun v G1 H1 R1 s1 rv => ?_⟩
          obtain ⟨G2, s2, R2, r2, _⟩ := R1.settle rv q2
          obtain ⟨ys, gp, tp, hy, ry⟩ : ∃ ys, G2 p = none ∧ p ∉ C.tt ∧ H1 p = some (.lst ys) ∧ RepL C.K G2 ys l := by
            have q := R2.sl i b hb
            rw [hv] at q
            rcases hc with ⟨rfl, _⟩ | ⟨rfl, _⟩
            · obtain ⟨p, o, z, z1, _, z3, z4, z5⟩ := q
              cases z
              cases z5 with
              | lst r => exact ⟨_, z1, z3, z4, r⟩
            · obtain ⟨p, o, z, z1, _, z3, z4, z5⟩ := q
              cases z
              cases z5 with
              | lst r => exact ⟨_, z1, z3, z4, r⟩
          refine ⟨p, ys, v, rfl, rfl, hy, by rw [ry.length]; exact lim16s hl, ?_⟩
          refine k σ G2 _ (R2.own (b := b) (b' := b') hv hb (by
            rcases hc with ⟨rfl, rfl⟩ | ⟨rfl, rfl⟩
            · exact ⟨_, _, .inl ⟨rfl, rfl⟩⟩
            · exact ⟨_, _, .inr ⟨rfl, rfl⟩⟩) (growO_upd R2.gh R2.tabs gp tp) upd_same (fun d' hd => by
            rcases hc with ⟨rfl, rfl⟩ | ⟨rfl, rfl⟩
            · cases hd; exact .lst (ry.append (.cons r2 .nil))
            · cases hd; exact .lst (ry.append (.cons r2 .nil)))) (s1.trans s2)
        split at he
        · rename_i l hb
          split at he
          · rename_i hl
            cases he
            exact fin hb hl (.inl ⟨rfl, rfl⟩) rfl
          · cases he
        · rename_i l hb
          split at he
          · rename_i hl
            cases he
            exact fin hb hl (.inr ⟨rfl, rfl⟩) rfl
          · cases he
        · cases he
      · cases he
    · cases he
  · cases he
theorem cs_app {i : Nat} (h : ∀ {te : TE}, PE X a te → PS X st (tDrop (tBM X.K "list" rAppend (tVar i) (tCons te tNil)))) (hK : C.K = X.K) (ha : PE X a (tE C x)) : PS X st (tS C (.app i x)) := (h ha).imp fun D σ H q => app_of hK q
/-! ### a place of a thing changes -/
/-- what a store does to the thing at p -/
def OkS (C : Cfg) (r : V → V → V → Hp → (Hp → Prop) → Prop) (f : D → D → D → Option D) : Prop := ∀ (p : Addr) (y v : V) (o : HO) (d0 kd d d1 : D) (G H : Hp) (Q : Hp → Prop), Same G H → H p = some o → RepO C.K G o d0 → Rep C.K G y kd → Rep C.K G v d → f d0 kd d = some d1 →
  (∀ o', RepO C.K G o' d1 → Q (upd H p o')) → r (.ref p) y v H Q
theorem sub_of {i : Nat} {f : D → D → D → Option D} {r : V → V → V → Hp → (Hp → Prop) → Prop} (ok : OkS C r f) {D : Ends} {σ : St} {H : Hp} (q : tS C (.sub f i y x) D σ H) :
    tE C x σ H fun v H1 => tVar i σ H1 fun u H2 => tE C y σ H2 fun w H3 => r u w v H3 fun H4 => D.nx σ H4 := by
  obtain ⟨F, G0, G, pn, e, o, R, he, k⟩ := q
  unfold ex at he
  split at he
  · rename_i h0
    split at he
    · rename_i rs e1 q1
      split at he
      · rename_i d kd e2 q2
        obtain ⟨p, hv⟩ : ∃ p, σ[i]? = some (some (.ref p)) := by
          unfold ownAt at h0
          split at h0
          · rename_i b hb
            have sl := R.sl i b hb
            cases b with
            | un => cases h0
            | im d => cases h0
            | ow d => obtain ⟨p, o, z, _⟩ := sl; exact ⟨p, z⟩
            | io d => obtain ⟨p, o, z, _⟩ := sl; exact ⟨p, z⟩
          · cases h0
        have fin : ∀ {b b' : B} {d0 d1 : Mi.D}, e2[i]? = some b → f d0 kd d = some d1 → ((b = .ow d0 ∧ b' = .ow d1) ∨ (b = .io d0 ∧ b' = .io d1)) → o = .nx (e2.set i b') →
            tE C x σ H fun v H1 => tVar i σ H1 fun u H2 => tE C y σ H2 fun w H3 => r u w v H3 fun H4 => D.nx σ H4 := fun {b b' d0 d1} hb hf hc ho => by
          subst ho
          unfold evs at q1
          split at q1
          · rename_i r1 e3 q3
            split at q1
            · rename_i rs2 e4 q4
              cases q1
              unfold evs at q4
              split at q4
              · rename_i r2 e5 q5
                unfold evs at q4
                cases q4
                refine ⟨F, G0, G, pn, e, r1, e3, R, q3, fun v G1 H1 R1 s1 rv => ⟨.ref p, hv, F, G0, G1, pn, e3, r2, _, R1, q5, fun w G2 H2 R2 s2 rw' => ?_⟩⟩
                obtain ⟨G3, s3, R3, r3, _⟩ := Rel.settles R2 (.cons ((rv.mono s2).env (ev_kept y _ _ _ q5).1) (.cons rw' .nil)) q2
                cases r3 with
                | cons ra rb =>
                  cases rb with
                  | cons rb rc =>
                    obtain ⟨o0, gp, tp, h1, r0⟩ : ∃ o0, G3 p = none ∧ p ∉ C.tt ∧ H2 p = some o0 ∧ RepO C.K G3 o0 d0 := by
                      have sl := R3.sl i b hb
                      rw [hv] at sl
                      rcases hc with ⟨rfl, _⟩ | ⟨rfl, _⟩
                      · obtain ⟨p', o, z, z1, _, z2⟩ := sl
                        cases z
                        exact ⟨o, z1, z2⟩
                      · obtain ⟨p', o, z, z1, _, z2⟩ := sl
                        cases z
                        exact ⟨o, z1, z2⟩
                    refine ok p w v o0 d0 kd d d1 G3 H2 _ R3.gh h1 r0 rb ra hf fun o' r' => ?_
                    refine k σ G3 _ (R3.own (b := b) (b' := b') hv hb (by
                      rcases hc with ⟨rfl, rfl⟩ | ⟨rfl, rfl⟩
                      · exact ⟨_, _, .inl ⟨rfl, rfl⟩⟩
                      · exact ⟨_, _, .inr ⟨rfl, rfl⟩⟩) (growO_upd R3.gh R3.tabs gp tp) upd_same (fun d' hd => by
                      rcases hc with ⟨rfl, rfl⟩ | ⟨rfl, rfl⟩
                      · cases hd; exact r'
                      · cases hd; exact r')) ((s1.trans s2).trans s3)
              · cases q4
            · cases q1
          · cases q1
        split at he
        · rename_i o0 hb
          split at he
          · rename_i o1 hf
            cases he
            exact fin hb hf (.inl ⟨rfl, rfl⟩) rfl
          · cases he
        · rename_i o0 hb
          split at he
          · rename_i o1 hf
            cases he
            exact fin hb hf (.inr ⟨rfl, rfl⟩) rfl
          · cases he
        · cases he
      · cases he
    · cases he
  · cases he
def setL : D → D → D → Option D := fun o k d => match o, k with
  | .lst l, .int i => (match ixN l.length i with
    | some j => some (.lst (l.set j d))
    | none => none)
  | _, _ => none
theorem setL_ok : OkS C rSetL setL := fun p y v o d0 kd d d1 G H Q s h r0 rk rd hf hQ => by
  unfold setL at hf
  split at hf
  · rename_i l i
    split at hf
    · rename_i j hj
      cases hf
      cases r0 with
      | lst r =>
        cases rk
        exact ⟨p, _, i, j, rfl, rfl, h, by rw [r.length]; exact hj, hQ _ (.lst (r.set rd j))⟩
    · cases hf
  · cases hf
theorem cs_subL {i : Nat} {b0 : Expr} (h : ∀ {te ti : TE}, PE X a te → PE X b0 ti → PS X st (tAsg te (gSub (tVar i) ti rSetL))) (ha : PE X a (tE C x)) (hb : PE X b0 (tE C y)) : PS X st (tS C (.sub setL i y x)) :=
  (h ha hb).imp fun D σ H q => sub_of setL_ok q
/-! ### loops -/
theorem for_of {g : List D → Option (List D)} {xs : List Ex} {tg : Tg} {tb : TS} (hb : ∀ D σ H, tS C s D σ H → tb D σ H) {D : Ends} {σ : St} {H : Hp} (q : tS C (.forr g xs tg s) D σ H) : tFor (tI C g xs) (tG C tg) tb D σ H := by
  obtain ⟨F, G0, G, pn, e, o, R, he, k⟩ := q
  unfold ex at he
  split at he
  · rename_i rs e1 q1
    split at he
    · rename_i ds e2 q2
      split at he
      · rename_i items q3
        refine ⟨F, G0, G, pn, e, rs, e1, ds, e2, items, R, q1, q2, q3, fun J G1 H1 R1 s1 W1 => ?_⟩
        let fb : Mi.D → Env' → Option Out := fun d e => match tg.bind d e with
          | some e3 => ex s e3
          | none => none
        have he' : forLoop fb items e2 = some o := he
        refine ⟨fun i m σ H => m = items.length - i ∧ i ≤ items.length ∧ ∃ (G2 : Hp) (e3 : Env'), Same G1 G2 ∧ Rel C F G0 G2 H pn σ e3 ∧ forLoop fb (items.drop i) e3 = some o, ⟨_, rfl, Nat.zero_le _, G1, e2, Same.refl G1, R1, he'⟩, ?_⟩
        rintro i m σ2 H2 ⟨rfl, hi, G2, e3, s2, R2, hl⟩
        by_cases hlt : i < items.length
        · refine .inr ⟨W1.go i G2 H2 hlt s2 R2.gh, _, fun σ' H' h => ⟨items.length - (i + 1), by omega, h⟩, fun x0 H3 yl => ?_⟩
          have hget : items[i]? = some items[i] := List.getElem?_eq_getElem hlt
          obtain ⟨G3, gr, rx⟩ := W1.yld i _ G2 H2 H3 x0 hget s2 R2.gh R2.tabs yl
          have R3 := R2.grow gr
          rw [List.drop_eq_getElem_cons hlt] at hl
          unfold forLoop at hl
          have s23 := s2.trans gr.gg
          have again : ∀ {e5 : Env'}, forLoop fb (items.drop (i + 1)) e5 = some o → ∀ σ' G' H', Rel C F G0 G' H' pn σ' e5 → Same G3 G' → items.length - (i + 1) = items.length - (i + 1) ∧ i + 1 ≤ items.length ∧ ∃ (G2 : Hp) (e3 : Env'), Same G1 G2 ∧ Rel C F G0 G2 H' pn σ' e3 ∧ forLoop fb (items.drop (i + 1)) e3 = some o :=
            fun {e5} hl5 σ' G' H' R' s' => ⟨rfl, by omega, G', e5, s23.trans s', R', hl5⟩
          have go : ∀ {o4 : Out}, fb items[i] e3 = some o4 → OutOk C F G0 G3 pn { D with nx := fun σ H => items.length - (i + 1) = items.length - (i + 1) ∧ i + 1 ≤ items.length ∧ ∃ (G2 : Hp) (e3 : Env'), Same G1 G2 ∧ Rel C F G0 G2 H pn σ e3 ∧ forLoop fb (items.drop (i + 1)) e3 = some o, ct := fun σ H => items.length - (i + 1) = items.length - (i + 1) ∧ i + 1 ≤ items.length ∧ ∃ (G2 : Hp) (e3 : Env'), Same G1 G2 ∧ Rel C F G0 G2 H pn σ e3 ∧ forLoop fb (items.drop (i + 1)) e3 = some o, bk := D.nx } o4 →
              tG C tg x0 σ2 H3 fun σ2 H2 => tb { D with nx := fun σ H => items.length - (i + 1) = items.length - (i + 1) ∧ i + 1 ≤ items.length ∧ ∃ (G2 : Hp) (e3 : Env'), Same G1 G2 ∧ Rel C F G0 G2 H pn σ e3 ∧ forLoop fb (items.drop (i + 1)) e3 = some o, ct := fun σ H => items.length - (i + 1) = items.length - (i + 1) ∧ i + 1 ≤ items.length ∧ ∃ (G2 : Hp) (e3 : Env'), Same G1 G2 ∧ Rel C F G0 G2 H pn σ e3 ∧ forLoop fb (items.drop (i + 1)) e3 = some o, bk := D.nx } σ2 H2 := fun {o4} h4 k4 => by
            have h4' : (match tg.bind items[i] e3 with
              | some e3 => ex s e3
              | none => none) = some o4 := h4
            split at h4'
            · rename_i e5 b5
              exact ⟨F, G0, G3, pn, e3, _, e5, R3, rx, b5, fun σ5 R5 _ => hb _ _ _ ⟨F, G0, G3, pn, e5, o4, R5, h4', k4⟩⟩
            · cases h4'
          split at hl
          · rename_i e4 h4
            exact go h4 (again hl)
          · rename_i e4 h4
            exact go h4 (again hl)
          · rename_i e4 h4
            cases hl
            exact go h4 fun σ' G' H' R' s' => k σ' G' H' R' ((s1.trans s23).trans s')
          · rename_i v4 e4 h4
            cases hl
            exact go h4 fun v σ' G' H' R' s' rv => k v σ' G' H' R' ((s1.trans s23).trans s') rv
          · cases hl
        · have hid : items.drop i = [] := List.drop_eq_nil_of_le (by omega)
          rw [hid] at hl
          unfold forLoop at hl
          cases hl
          exact .inl ⟨W1.stop i G2 H2 (by omega) s2 R2.gh, k σ2 G2 H2 R2 (s1.trans s2)⟩
      · cases he
    · cases he
  · cases he
theorem cs_for {tgx iter : Expr} {body : List Stmt} {g : List D → Option (List D)} {xs : List Ex} {tg : Tg} (hp : PassesOwn (model X.prog X.w) X.A X.env X.xe) (hc : X.calm = true) (hi : PI X tgx iter (tI C g xs)) (hg : PG X tgx (tG C tg)) (hb : PSs X body (tS C s))
    (hs : ∀ x, foldedSetIterable iter X.env x = pure x := by intro _; rfl) : PS X (.For tgx iter body [] pos) (tS C (.forr g xs tg s)) := (ps_for hp hc hi hg hb hs).imp fun D σ H q => for_of (fun _ _ _ h => h) q
theorem while_of {n : Nat} {D : Ends} {σ : St} {H : Hp} (q : tS C (.whil n z s) D σ H) : tWhile (tT C z) (tS C s) D σ H := by
  obtain ⟨F, G0, G, pn, e, o, R, he, k⟩ := q
  unfold ex at he
  let fc : Env' → Option (Bool × Env') := fun e => match ev z e with
      | some (r, e1) => (match r.get e1 with
        | some d => (match truth d with
          | some t => some (t, e1)
          | none => none)
        | none => none)
      | none => none
  have he' : whileLoop fc (fun e => ex s e) n e = some o := he
  refine ⟨fun m σ H => ∃ (G2 : Hp) (e3 : Env'), Same G G2 ∧ Rel C F G0 G2 H pn σ e3 ∧ whileLoop fc (fun e => ex s e) m e3 = some o, ⟨n, G, e, Same.refl G, R, he'⟩, ?_⟩
  rintro m σ2 H2 ⟨G2, e3, s2, R2, hl⟩
  cases m with
  | zero => unfold whileLoop at hl; cases hl
  | succ m =>
    unfold whileLoop at hl
    have test : ∀ {b : Bool} {e4 : Env'}, fc e3 = some (b, e4) → ∀ Q : Bool → Hp → Prop, (∀ G' H', Rel C F G0 G' H' pn σ2 e4 → Same G2 G' → Q b H') → tT C z σ2 H2 Q := fun {b e4} h Q hQ => by
      have h' : (match ev z e3 with
        | some (r, e1) => (match r.get e1 with
          | some d => (match truth d with
            | some t => some (t, e1)
            | none => none)
          | none => none)
        | none => none) = some (b, e4) := h
      split at h'
      · rename_i r e1 q1
        split at h'
        · rename_i d q2
          split at h'
          · rename_i t q3
            cases h'
            exact ⟨F, G0, G2, pn, e3, r, _, d, _, R2, q1, q2, q3, hQ⟩
          · cases h'
        · cases h'
      · cases h'
    split at hl
    · rename_i e4 h4
      cases hl
      exact test h4 _ fun G4 H4 R4 s4 => iteF (k σ2 G4 H4 R4 (s2.trans s4))
    · rename_i e4 h4
      refine test h4 _ fun G4 H4 R4 s4 => iteT ⟨fun σ' H' => ∃ (G2 : Hp) (e3 : Env'), Same G G2 ∧ Rel C F G0 G2 H' pn σ' e3 ∧ whileLoop fc (fun e => ex s e) m e3 = some o, fun σ' H' h => ⟨m, Nat.lt_succ_self m, h⟩, ?_⟩
      have s24 := s2.trans s4
      split at hl
      · rename_i e5 h5
        exact ⟨F, G0, G4, pn, e4, _, R4, h5, fun σ' G' H' R' s' => ⟨G', e5, s24.trans s', R', hl⟩⟩
      · rename_i e5 h5
        exact ⟨F, G0, G4, pn, e4, _, R4, h5, fun σ' G' H' R' s' => ⟨G', e5, s24.trans s', R', hl⟩⟩
      · rename_i e5 h5
        cases hl
        exact ⟨F, G0, G4, pn, e4, _, R4, h5, fun σ' G' H' R' s' => k σ' G' H' R' (s24.trans s')⟩
      · rename_i v5 e5 h5
        cases hl
        exact ⟨F, G0, G4, pn, e4, _, R4, h5, fun v σ' G' H' R' s' rv => k v σ' G' H' R' (s24.trans s') rv⟩
      · cases hl
    · cases hl
theorem cs_while {body : List Stmt} {n : Nat} (hp : PassesOwn (model X.prog X.w) X.A X.env X.xe) (hc : PT X c (tT C z)) (hb : PSs X body (tS C s)) : PS X (.While c body [] pos) (tS C (.whil n z s)) := (ps_while hp hc hb).imp fun D σ H q => while_of q
end
/-! ### functions -/
def initI (N : Nat) (ds : List D) : Env' := ds.map B.im ++ List.replicate (N - ds.length) .un
def runI (n N : Nat) (s : S) : List D → Option D := fun ds => if ds.length = n then (match ex s (initI N ds) with
  | some (.rt d _) => some d
  | some (.nx _) => some .non
  | _ => none) else none
def initO (N : Nat) (d0 : D) (ds : List D) : Env' := .io d0 :: (ds.map B.im ++ List.replicate (N - (ds.length + 1)) .un)
def outO (e : Env') : Option D := match e with
  | .io d :: _ => some d
  | _ => none
def runO (n N : Nat) (s : S) : List D → Option (D × D) := fun ds => match ds with
  | d0 :: ds => if ds.length + 1 = n then (match ex s (initO N d0 ds) with
    | some (.rt d e) => (outO e).map fun d1 => (d, d1)
    | some (.nx e) => (outO e).map fun d1 => (.non, d1)
    | _ => none) else none
  | [] => none
section
variable {P : Program} {w : World} {K : Frag} {mg : Str → Option Value} {base : Heap} {C : Cfg} {nm qual : Str} {params : Arguments} {body : List Stmt} {scope : Scope} {f : Addr} {fd : FuncData} {N ps : List Str} {k : Nat} {s : S}
/-- a def's code as its text says -/
theorem fnI_of (F : FunD K nm qual params body scope [] [] f fd) (S : FnScope N ps scope) (hK : C.K = K) (hb : ∀ (cdv : Value) (A : Around) (outer : List Env) (s0 : Shared) (H : Hp) (E : XK), (∀ oc od osl fd', K.lookup f = some ⟨oc, od, .func fd', osl⟩ → fd'.code = cdv) → Room k (A.deeper (envOfC qual scope s0.heap.objs.size f cdv)) →
      PSs (cxOf CX0 P w K mg base N qual scope f cdv A outer s0 H E).nox body (tS C s)) : FnOk P w K mg base CX0 (k + 1) f fd ps (spI C ps.length (runI ps.length N.length s)) := by
  obtain ⟨oc, od, dV, kV, doc, pm, an, cdv, ct, osl, rfl, lk, hcd, _, _⟩ := F.ex
  refine fn_of lk hcd S (fun vs H Q E h => ?_) fun A outer s0 H vs Q E hr hsp => ?_
  · obtain ⟨_, _, _, h, _⟩ := h
    exact h
  · refine ⟨_, (hb cdv A outer s0 H E (fun oc2 od2 osl2 fd2 h => by rw [lk] at h; cases h; rfl) hr).nox, ?_⟩
    obtain ⟨G, ds, d, hl, gh, tb, rl, hφ, hQ⟩ := hsp
    unfold runI at hφ
    split at hφ
    · rename_i hn
      have R : Rel C (fun p => if p ∈ C.tt then none else H p) G G H none (L2.start N vs) (initI N.length ds) := by
        have hle : ∀ i, i < ds.length → (initI N.length ds)[i]? = (ds[i]?).map B.im := fun i hi => by
          unfold initI
          rw [List.getElem?_append_left (by rw [List.length_map]; exact hi), List.getElem?_map]
        have hge : ∀ i b, ds.length ≤ i → (initI N.length ds)[i]? = some b → b = .un := fun i b hi h => by
          unfold initI at h
          rw [List.getElem?_append_right (by rw [List.length_map]; exact hi)] at h
          exact (List.mem_replicate.mp (List.mem_of_getElem? h)).2
        have ow : ∀ (i : Nat) (b : B), (initI N.length ds)[i]? = some b → b.isOw = true → False := fun i b h1 h2 => by
          by_cases hi : i < ds.length
          · rw [hle i hi] at h1
            cases q : ds[i]? with
            | none => rw [q] at h1; cases h1
            | some d => rw [q] at h1; cases h1; cases h2
          · rw [hge i b (by omega) h1] at h2; cases h2
        refine ⟨fun b o h => ?_, gh, fun _ _ => rfl, fun P hP => ⟨(tb P hP).1, (tb P hP).2, if_pos hP⟩, fun i b h => ?_, fun i j p ⟨_, b, h1, h2⟩ _ => (ow i b h1 h2).elim, fun i p h => (nomatch h), ?_⟩
        · have h' : (if b ∈ C.tt then none else H b) = some o := h
          split at h'
          · cases h'
          · exact h'
        · by_cases hi : i < ds.length
          · rw [hle i hi] at h
            cases q : ds[i]? with
            | none => rw [q] at h; cases h
            | some d =>
              rw [q] at h
              cases h
              obtain ⟨v, h1, h2⟩ := rl.getD q
              refine ⟨v, ?_, h2⟩
              unfold L2.start
              rw [List.getElem?_append_left (by rw [List.length_map, rl.length]; exact hi), List.getElem?_map, h1]
              rfl
          · rw [hge i b (by omega) h]
            trivial
        · unfold L2.start initI
          rw [List.length_append, List.length_append, List.length_map, List.length_map, List.length_replicate, List.length_replicate, rl.length]
      have fin : ∀ {v : V} {σ' : St} {G' H' : Hp} {e' : Env'} {d : D}, Rel C (fun p => if p ∈ C.tt then none else H p) G G' H' none σ' e' → Same G G' → Rep C.K G' v d → (∀ v G' H', Grow C G H G' H' → Rep C.K G' v d → Q v H') → Q v H' := fun {v σ' G' H' e' d} R' s' rv hQ => by
        refine hQ v G' H' ⟨s', R'.gh, fun p hp ht => ?_, fun p hp => ?_, R'.tabs⟩ rv
        · cases q : H p with
          | none => exact absurd q hp
          | some o => exact R'.fh p o ((if_neg ht).trans q)
        · by_cases ht : p ∈ C.tt
          · rw [(R'.tb p ht).2.1, (tb p ht).2]
          · exact R'.gf p (fun z => hp ((if_neg ht).symm.trans z))
      split at hφ
      · rename_i d1 e1 hx
        cases hφ
        exact ⟨_, G, G, none, _, _, R, hx, fun v σ' G' H' R' s' rv => fin R' s' rv hQ⟩
      · rename_i e1 hx
        cases hφ
        exact ⟨_, G, G, none, _, _, R, hx, fun σ' G' H' R' s' => fin R' s' .non hQ⟩
      · cases hφ
    · cases hφ
theorem fnO_of (F : FunD K nm qual params body scope [] [] f fd) (S : FnScope N ps scope) (hK : C.K = K) (hb : ∀ (cdv : Value) (A : Around) (outer : List Env) (s0 : Shared) (H : Hp) (E : XK), (∀ oc od osl fd', K.lookup f = some ⟨oc, od, .func fd', osl⟩ → fd'.code = cdv) → Room k (A.deeper (envOfC qual scope s0.heap.objs.size f cdv)) →
      PSs (cxOf CX0 P w K mg base N qual scope f cdv A outer s0 H E).nox body (tS C s)) : FnOk P w K mg base CX0 (k + 1) f fd ps (spO C ps.length (runO ps.length N.length s)) := by
  obtain ⟨oc, od, dV, kV, doc, pm, an, cdv, ct, osl, rfl, lk, hcd, _, _⟩ := F.ex
  refine fn_of lk hcd S (fun vs H Q E h => ?_) fun A outer s0 H vs Q E hr hsp => ?_
  · obtain ⟨_, _, _, _, _, _, _, _, _, h, _⟩ := h
    exact h
  · refine ⟨_, (hb cdv A outer s0 H E (fun oc2 od2 osl2 fd2 h => by rw [lk] at h; cases h; rfl) hr).nox, ?_⟩
    obtain ⟨G, p0, o0, d0, ws, ds, d, d1, rfl, hl, gh, tb, g0, t0, h0, r0, rl, hφ, hQ⟩ := hsp
    unfold runO at hφ
    dsimp only at hφ
    split at hφ
    · rename_i hn
      have R : Rel C (fun p => if p ∈ C.tt ∨ p = p0 then none else H p) G G H (some (0, p0)) (L2.start N (.ref p0 :: ws)) (initO N.length d0 ds) := by
        have hle : ∀ i, i < ds.length → (initO N.length d0 ds)[i + 1]? = (ds[i]?).map B.im := fun i hi => by
          unfold initO
          rw [List.getElem?_cons_succ, List.getElem?_append_left (by rw [List.length_map]; exact hi), List.getElem?_map]
        have hge : ∀ i b, ds.length ≤ i → (initO N.length d0 ds)[i + 1]? = some b → b = .un := fun i b hi h => by
          unfold initO at h
          rw [List.getElem?_cons_succ, List.getElem?_append_right (by rw [List.length_map]; exact hi)] at h
          exact (List.mem_replicate.mp (List.mem_of_getElem? h)).2
        have ow : ∀ (i : Nat) (b : B), (initO N.length d0 ds)[i + 1]? = some b → b.isOw = true → False := fun i b h1 h2 => by
          by_cases hi : i < ds.length
          · rw [hle i hi] at h1
            cases q : ds[i]? with
            | none => rw [q] at h1; cases h1
            | some d => rw [q] at h1; cases h1; cases h2
          · rw [hge i b (by omega) h1] at h2; cases h2
        refine ⟨fun b o h => ?_, gh, fun _ _ => rfl, fun P hP => ⟨(tb P hP).1, (tb P hP).2, if_pos (.inl hP)⟩, fun i b h => ?_, fun i j p ⟨_, b, h1, h2⟩ ⟨_, b', h3, h4⟩ => ?_, fun i p h => ?_, ?_⟩
        · have h' : (if b ∈ C.tt ∨ b = p0 then none else H b) = some o := h
          split at h'
          · cases h'
          · exact h'
        · cases i with
          | zero =>
            cases h
            exact ⟨p0, o0, rfl, g0, if_pos (.inr rfl), t0, h0, r0⟩
          | succ i =>
            by_cases hi : i < ds.length
            · rw [hle i hi] at h
              cases q : ds[i]? with
              | none => rw [q] at h; cases h
              | some d =>
                rw [q] at h
                cases h
                obtain ⟨v, h1, h2⟩ := rl.getD q
                refine ⟨v, ?_, h2⟩
                unfold L2.start
                rw [List.map_cons, List.cons_append, List.getElem?_cons_succ, List.getElem?_append_left (by rw [List.length_map, rl.length]; exact hi), List.getElem?_map, h1]
                rfl
            · rw [hge i b (by omega) h]
              trivial
        · cases i with
          | zero =>
            cases j with
            | zero => rfl
            | succ j => exact (ow j b' h3 h4).elim
          | succ i => exact (ow i b h1 h2).elim
        · cases h
          exact ⟨rfl, d0, rfl⟩
        · unfold L2.start initO
          simp only [List.length_append, List.length_cons, List.length_map, List.length_replicate, rl.length]
          omega
      have fin : ∀ {v : V} {σ' : St} {G' H' : Hp} {e' : Env'} {d d1 : D}, Rel C (fun p => if p ∈ C.tt ∨ p = p0 then none else H p) G G' H' (some (0, p0)) σ' e' → Same G G' → Rep C.K G' v d → outO e' = some d1 →
          (∀ v G' H' o', GrowO C p0 G H G' H' → Rep C.K G' v d → H' p0 = some o' → RepO C.K G' o' d1 → Q v H') → Q v H' := fun {v σ' G' H' e' d d1} R' s' rv ho hQ => by
        obtain ⟨k1, dd, k2⟩ := R'.pi 0 p0 rfl
        obtain ⟨p1, o1, z, z1, _, z3, z4, z5⟩ := R'.sl 0 _ k2
        rw [k1] at z
        cases z
        have e1 : dd = d1 := by
          cases e' with
          | nil => cases k2
          | cons b e' =>
            cases k2
            exact Option.some.inj ho
        subst e1
        refine hQ v G' H' o1 ⟨s', R'.gh, fun p hp hp2 ht => ?_, fun p hp => ?_, R'.tabs⟩ rv z4 z5
        · cases q : H p with
          | none => exact absurd q hp2
          | some o => exact R'.fh p o ((if_neg (fun z => z.elim ht hp)).trans q)
        · by_cases ht : p ∈ C.tt
          · rw [(R'.tb p ht).2.1, (tb p ht).2]
          · by_cases hp0 : p = p0
            · rw [hp0, z1, g0]
            · exact R'.gf p (fun z => hp ((if_neg (fun z => z.elim ht hp0)).symm.trans z))
      split at hφ
      · rename_i d2 e1 hx
        cases q : outO e1 with
        | none => rw [q] at hφ; cases hφ
        | some d3 =>
          rw [q] at hφ
          cases hφ
          exact ⟨_, G, G, some (0, p0), _, _, R, hx, fun v σ' G' H' R' s' rv => fin R' s' rv q hQ⟩
      · rename_i e1 hx
        cases q : outO e1 with
        | none => rw [q] at hφ; cases hφ
        | some d3 =>
          rw [q] at hφ
          cases hφ
          exact ⟨_, G, G, some (0, p0), _, _, R, hx, fun σ' G' H' R' s' => fin R' s' .non q hQ⟩
      · cases hφ
    · cases hφ
end
end Mi

/-! The operations. -/
namespace Mi
open PySem PySem.Spec PyProof.Rows L2 GxR
section
variable {X : Cx} {C : Cfg}
/-! ### results -/
theorem res_flat {G H : Hp} {Q : VK} {v : V} {d : D} (s : Same G H) (t : ∀ P ∈ C.tt, TabG H P) (k : ∀ v G' H', Grow C G H G' H' → Rep C.K G' v d → Q v H') (r : Rep C.K G v d) : Q v H := k v G H (Grow.refl s t) r
theorem strOf (s : List Nat) : (⟨s.toArray⟩ : Str).cps.toList = s := by simp
theorem strLen (s : List Nat) : (⟨s.toArray⟩ : Str).length = s.length := by simp [Str.length]
theorem strApp (a b : List Nat) : (⟨a.toArray⟩ : Str) ++ ⟨b.toArray⟩ = ⟨(a ++ b).toArray⟩ := by
  show (⟨a.toArray ++ b.toArray⟩ : Str) = _
  simp
/-! ### + - * // % ** -/
def addF : List D → Option D
  | [.int a, .int b] => some (.int (a + b))
  | [.str a, .str b] => if a.length + b.length ≤ 16000000 then some (.str (a ++ b)) else none
  | [.lst a, .lst b] => if a.length + b.length ≤ 16000000 then some (.lst (a ++ b)) else none
  | [.tup a, .tup b] => if a.length + b.length ≤ 16000000 ∧ a ≠ [] ∧ b ≠ [] then some (.tup (a ++ b)) else none
  | [.int a, .bl b] => some (.int (a + if b then 1 else 0))
  | _ => none
/-- lists alone, a new one -/
def addLF : List D → Option D
  | [.lst a, .lst b] => if a.length + b.length ≤ 16000000 then some (.lst (a ++ b)) else none
  | _ => none
theorem addF_two : Two addF := fun ds d h => by
  unfold addF at h
  split at h <;> first | rfl | cases h
theorem addLF_two : Two addLF := fun ds d h => by
  unfold addLF at h
  split at h <;> first | rfl | cases h
def rAddA (K : Frag) : R2 := fun x y H Q => rI0 (fun i j => .int (i + j)) x y H Q ∨ (∃ i j, x = .str i ∧ y = .str j ∧ i.length + j.length ≤ sizeLine ∧ Q (.str (i ++ j)) H) ∨ rCat x y H Q ∨ rCatT K x y H Q ∨ (∃ i k, x = .int i ∧ y = .bl k ∧ Q (.int (i + b2i k)) H)
theorem op_addA : OpR X (binaryOp .Add) (rAddA X.K) := op_add.or (op_add_str.or (op_cat.or (op_catT.or op_add_ib)))
theorem addLF_ok : Ok2F C rCat addLF := fun x y a b d G H Q s t r1 r2 e k => by
  unfold addLF at e
  split at e
  · rename_i l m hq
    cases hq
    split at e
    · rename_i hz
      cases e
      cases r1 with
      | lst q1 rr1 =>
        cases r2 with
        | lst q2 rr2 => exact ⟨_, _, _, _, rfl, rfl, q1, q2, by rw [rr1.length, rr2.length]; exact lim16 hz, fun p hp => k p _ hp (.lst (rr1.append rr2))⟩
    · cases e
  · cases e
theorem addF_ok (hK : C.K = X.K) : Ok2 C (rAddA X.K) addF := fun x y a b d G H Q s t r1 r2 e k => by
  unfold addF at e
  split at e
  · rename_i i j hq
    cases hq
    cases e
    cases r1
    cases r2
    exact .inl ⟨i, j, rfl, rfl, res_flat s t k (.int _)⟩
  · rename_i i j hq
    cases hq
    split at e
    · rename_i hz
      cases e
      cases r1
      cases r2
      refine .inr (.inl ⟨_, _, rfl, rfl, by rw [strLen, strLen]; exact lim16 hz, ?_⟩)
      rw [strApp]
      exact res_flat s t k (.str _)
    · cases e
  · rename_i l m hq
    cases hq
    split at e
    · rename_i hz
      cases e
      exact .inr (.inr (.inl (addLF_ok x y (.lst l) (.lst m) _ G H Q s t r1 r2 (by unfold addLF; exact if_pos hz) (known_of_new s t k))))
    · cases e
  · rename_i l m hq
    cases hq
    split at e
    · rename_i hz
      cases e
      cases r1 with
      | tup g1 q1 rr1 =>
        cases r2 with
        | tup g2 q2 rr2 =>
          refine .inr (.inr (.inr (.inl ⟨_, _, _, _, rfl, rfl, SqT.of q1, SqT.of q2, fun z => hz.2.1 ?_, by rw [rr1.length, rr2.length]; exact lim16 hz.1, fun z => absurd ?_ hz.2.2, fun _ p hp => ?_⟩)))
          · rw [z] at rr1; cases rr1; rfl
          · rw [z] at rr2; cases rr2; rfl
          · have gp := s.free hp
            refine k (.ref p) (upd G p (.tup _)) (upd H p (.tup _)) (grow_new s t hp) (.tup upd_same ((rr1.append rr2).mono fun b u hb => by rw [upd_ne (ne_of_none hb gp)]; exact hb))
    · cases e
  · rename_i i b hq
    cases hq
    cases e
    cases r1
    cases r2
    exact .inr (.inr (.inr (.inr ⟨i, b, rfl, rfl, res_flat s t k (by cases b <;> exact .int _)⟩)))
  · cases e
def subF : List D → Option D
  | [.int a, .int b] => some (.int (a - b))
  | _ => none
theorem subF_two : Two subF := fun ds d h => by
  unfold subF at h
  split at h <;> first | rfl | cases h
theorem subF_ok : Ok2 C (rI0 fun i j => .int (i - j)) subF := fun x y a b d G H Q s t r1 r2 e k => by
  unfold subF at e
  split at e
  · rename_i i j hq
    cases hq
    cases e
    cases r1
    cases r2
    exact ⟨i, j, rfl, rfl, res_flat s t k (.int _)⟩
  · cases e
def mulF : List D → Option D
  | [.int a, .int b] => if (-(2 ^ 64) < a ∧ a < 2 ^ 64) ∨ (-(2 ^ 64) < b ∧ b < 2 ^ 64) then some (.int (a * b)) else none
  | [.str s, .int n] => if n ≤ 16000000 ∧ -16000000 ≤ n ∧ s.length * n.toNat ≤ 16000000 then some (.str (List.replicate n.toNat s).flatten) else none
  | [.lst l, .int n] => if n ≤ 16000000 ∧ -16000000 ≤ n ∧ l.length * n.toNat ≤ 16000000 then some (.lst (List.replicate n.toNat l).flatten) else none
  | _ => none
def mulLF : List D → Option D
  | [.lst l, .int n] => if n ≤ 16000000 ∧ -16000000 ≤ n ∧ l.length * n.toNat ≤ 16000000 then some (.lst (List.replicate n.toNat l).flatten) else none
  | _ => none
theorem mulF_two : Two mulF := fun ds d h => by
  unfold mulF at h
  split at h <;> first | rfl | cases h
theorem mulLF_two : Two mulLF := fun ds d h => by
  unfold mulLF at h
  split at h <;> first | rfl | cases h
def rStrRep : R2 := fun x y H Q => ∃ (z : List Nat) (n : Int), x = .str ⟨z.toArray⟩ ∧ y = .int n ∧ n ≤ 16000000 ∧ -16000000 ≤ n ∧ z.length * n.toNat ≤ 16000000 ∧ Q (.str ⟨(List.replicate n.toNat z).flatten.toArray⟩) H
theorem foldl_str (z : List Nat) : ∀ (n : Nat) (acc : Array Nat), (List.replicate n z.toArray).foldl (· ++ ·) acc = acc ++ (List.replicate n z).flatten.toArray
  | 0, acc => by simp
  | n + 1, acc => by
    rw [List.replicate_succ, List.foldl_cons, foldl_str z n]
    simp [List.replicate_succ]
theorem op_strrep : OpR X (binaryOp .Mult) rStrRep := by
  intro pins s σ H x y v u Q I rx ry h
  obtain ⟨z, n, rfl, rfl, h1, h2, h3, q⟩ := h
  obtain ⟨t, rfl⟩ := rx
  obtain ⟨t', rfl⟩ := ry
  refine PySem.P.mul_str (by
    have e1 : decide (n < -(2 ^ 63 : Int)) = false := decide_eq_false (by omega)
    have e2 : decide (n ≥ 2 ^ 63) = false := decide_eq_false (by omega)
    rw [e1, e2] <;> rfl) (fun hn hz => ?_) (fun hn hz => ?_) ?_
  · rw [strLen]
    have hn1 : 1 ≤ n := by omega
    have h4 : z.length ≤ 16000000 := by
      have : z.length * 1 ≤ z.length * n.toNat := Nat.mul_le_mul_left _ (by omega)
      omega
    have h5 : (2 ^ 63 - 1) / 16000000 ≤ ((2 : Int) ^ 63 - 1) / n := by
      have : ((2 : Int) ^ 63 - 1) / 16000000 ≤ (2 ^ 63 - 1) / n := by
        refine Int.le_ediv_of_mul_le (by omega) ?_
        have h6 : ((2 : Int) ^ 63 - 1) / 16000000 * n ≤ ((2 : Int) ^ 63 - 1) / 16000000 * 16000000 := Int.mul_le_mul_of_nonneg_left h1 (by decide)
        have h7 : ((2 : Int) ^ 63 - 1) / 16000000 * 16000000 ≤ 2 ^ 63 - 1 := by decide
        omega
      exact this
    have h8 : (16000000 : Int) ≤ (2 ^ 63 - 1) / 16000000 := by decide
    omega
  · rw [strLen]
    have := lim16 h3
    unfold Builtin.Str.tooLong
    simpa using this
  · by_cases hn : n < 1
    · rw [if_pos hn]
      have e0 : n.toNat = 0 := by omega
      rw [e0] at q
      exact ⟨by decide, .str _, H, I.tok _, ⟨_, rfl⟩, q⟩
    · rw [if_neg hn]
      by_cases hz : (n == 1 || (⟨z.toArray⟩ : Str).length == 0) = true
      · rw [if_pos hz]
        have e0 : (List.replicate n.toNat z).flatten = z := by
          rcases Bool.or_eq_true_iff.mp hz with e | e
          · have : n = 1 := by simpa using e
            subst this
            simp
          · rw [strLen] at e
            have : z = [] := by
              cases z with
              | nil => rfl
              | cons a b => simp at e
            subst this
            simp
        rw [e0] at q
        exact ⟨.str _, H, I, ⟨_, rfl⟩, q⟩
      · rw [if_neg hz]
        have e1 : (List.replicate n.toNat (⟨z.toArray⟩ : Str).cps).foldl (· ++ ·) #[] = (List.replicate n.toNat z).flatten.toArray := by
          show (List.replicate n.toNat z.toArray).foldl (· ++ ·) #[] = _
          rw [foldl_str]
          simp
        rw [e1]
        refine ⟨?_, .str _, H, I.tok _, ⟨_, rfl⟩, q⟩
        rw [strLen]
        have : (List.replicate n.toNat z).flatten.length = z.length * n.toNat := by
          rw [List.length_flatten, List.map_replicate, List.sum_replicate_nat, Nat.mul_comm]
        rw [this]
        exact lim16 h3
def rMulA : R2 := fun x y H Q => rI CMul (fun i j => .int (i * j)) x y H Q ∨ rStrRep x y H Q ∨ rRep x y H Q
theorem op_mulA : OpR X (binaryOp .Mult) rMulA := op_mul.or (op_strrep.or op_rep)
theorem repL_rep {K : Frag} {G : Hp} {xs : List V} {ds : List D} (r : RepL K G xs ds) : ∀ n : Nat, RepL K G (List.replicate n xs).flatten (List.replicate n ds).flatten
  | 0 => by simpa using RepL.nil
  | n + 1 => by
    rw [List.replicate_succ, List.replicate_succ, List.flatten_cons, List.flatten_cons]
    exact r.append (repL_rep r n)
theorem mulLF_ok : Ok2F C rRep mulLF := fun x y a b d G H Q s t r1 r2 e k => by
  unfold mulLF at e
  split at e
  · rename_i l n hq
    cases hq
    split at e
    · rename_i hz
      cases e
      cases r2
      cases r1 with
      | lst q1 rr1 => exact ⟨_, n, _, rfl, rfl, q1, by omega, by omega, by rw [rr1.length]; exact lim16 hz.2.2, fun p hp => k p _ hp (.lst (repL_rep rr1 _))⟩
    · cases e
  · cases e
theorem mulF_ok : Ok2 C rMulA mulF := fun x y a b d G H Q s t r1 r2 e k => by
  unfold mulF at e
  split at e
  · rename_i i j hq
    cases hq
    split at e
    · rename_i hz
      cases e
      cases r1
      cases r2
      exact .inl ⟨i, j, rfl, rfl, hz, res_flat s t k (.int _)⟩
    · cases e
  · rename_i z n hq
    cases hq
    split at e
    · rename_i hz
      cases e
      cases r1
      cases r2
      exact .inr (.inl ⟨z, n, rfl, rfl, hz.1, hz.2.1, hz.2.2, res_flat s t k (.str _)⟩)
    · cases e
  · rename_i l n hq
    cases hq
    split at e
    · rename_i hz
      cases e
      exact .inr (.inr (mulLF_ok x y (.lst l) (.int n) _ G H Q s t r1 r2 (by unfold mulLF; exact if_pos hz) (known_of_new s t k)))
    · cases e
  · cases e
def fdivF : List D → Option D
  | [.int a, .int b] => if b ≠ 0 ∧ b.natAbs < 1073741824 then some (.int (a.fdiv b)) else none
  | _ => none
theorem fdivF_two : Two fdivF := fun ds d h => by
  unfold fdivF at h
  split at h <;> first | rfl | cases h
theorem fdivF_ok : Ok2 C (rI CDivN fun i j => .int (i.fdiv j)) fdivF := fun x y a b d G H Q s t r1 r2 e k => by
  unfold fdivF at e
  split at e
  · rename_i i j hq
    cases hq
    split at e
    · rename_i hz
      cases e
      cases r1
      cases r2
      exact ⟨i, j, rfl, rfl, hz, res_flat s t k (.int _)⟩
    · cases e
  · cases e
def modF : List D → Option D
  | [.int a, .int b] => if b ≠ 0 then some (.int (a.fmod b)) else none
  | _ => none
theorem modF_two : Two modF := fun ds d h => by
  unfold modF at h
  split at h <;> first | rfl | cases h
theorem modF_ok : Ok2 C (rI (fun _ j => j ≠ 0) fun i j => .int (i.fmod j)) modF := fun x y a b d G H Q s t r1 r2 e k => by
  unfold modF at e
  split at e
  · rename_i i j hq
    cases hq
    split at e
    · rename_i hz
      cases e
      cases r1
      cases r2
      exact ⟨i, j, rfl, rfl, hz, res_flat s t k (.int _)⟩
    · cases e
  · cases e
def powF : List D → Option D
  | [.int a, .int b] => if 0 ≤ b ∧ b ≤ 1000000 ∧ a.natAbs < 2 ^ 64 then some (.int (a ^ b.toNat)) else none
  | _ => none
theorem powF_two : Two powF := fun ds d h => by
  unfold powF at h
  split at h <;> first | rfl | cases h
theorem powF_ok : Ok2 C (rI CPow fun i j => .int (i ^ j.toNat)) powF := fun x y a b d G H Q s t r1 r2 e k => by
  unfold powF at e
  split at e
  · rename_i i j hq
    cases hq
    split at e
    · rename_i hz
      cases e
      cases r1
      cases r2
      exact ⟨i, j, rfl, rfl, hz, res_flat s t k (.int _)⟩
    · cases e
  · cases e
def negF : List D → Option D
  | [.int a] => some (.int (-a))
  | _ => none
theorem repTs_one {G H : Hp} {vs : List V} {d : D} (r : RepTs C.K G H vs [d]) : ∃ v, vs = [v] ∧ RepT C.K G H v d := by
  cases r with
  | cons a b => cases b; exact ⟨_, rfl, a⟩
theorem repTs_two {G H : Hp} {vs : List V} {d e : D} (r : RepTs C.K G H vs [d, e]) : ∃ v w, vs = [v, w] ∧ RepT C.K G H v d ∧ RepT C.K G H w e := by
  cases r with
  | cons a b =>
    cases b with
    | cons b c => cases c; exact ⟨_, _, rfl, a, b⟩
theorem negF_ok : OkN C (fun vs H Q => ∃ a, vs = [a] ∧ rU (fun i => .int (-i)) a H Q) negF := fun vs ds d G H Q s t r e k => by
  unfold negF at e
  split at e
  · rename_i i
    cases e
    obtain ⟨v, rfl, rv⟩ := repTs_one r
    cases rv
    exact ⟨_, rfl, i, rfl, res_flat s t k (.int _)⟩
  · cases e
/-! ### comparisons -/
def cmpF (fi : Int → Int → Bool) (fs : List Nat → List Nat → Bool) : List D → Option D
  | [.int a, .int b] => some (.bl (fi a b))
  | [.str a, .str b] => some (.bl (fs a b))
  | _ => none
theorem cmpF_two {fi : Int → Int → Bool} {fs : List Nat → List Nat → Bool} : Two (cmpF fi fs) := fun ds d h => by
  unfold cmpF at h
  split at h <;> first | rfl | cases h
theorem cmpF_boo {fi : Int → Int → Bool} {fs : List Nat → List Nat → Bool} : Boo (cmpF fi fs) := fun ds d h => by
  unfold cmpF at h
  split at h
  · cases h; exact ⟨_, rfl⟩
  · cases h; exact ⟨_, rfl⟩
  · cases h
def rCmpA (fi : Int → Int → Bool) (fs : List Nat → List Nat → Bool) : R2 := fun x y H Q => rI0 (fun i j => .bl (fi i j)) x y H Q ∨ ∃ i j, x = .str i ∧ y = .str j ∧ Q (.bl (fs i.cps.toList j.cps.toList)) H
theorem cmpF_ok {fi : Int → Int → Bool} {fs : List Nat → List Nat → Bool} : Ok2 C (rCmpA fi fs) (cmpF fi fs) := fun x y a b d G H Q s t r1 r2 e k => by
  unfold cmpF at e
  split at e
  · rename_i i j hq
    cases hq
    cases e
    cases r1
    cases r2
    exact .inl ⟨i, j, rfl, rfl, res_flat s t k (.bl _)⟩
  · rename_i i j hq
    cases hq
    cases e
    cases r1
    cases r2
    refine .inr ⟨_, _, rfl, rfl, ?_⟩
    rw [strOf, strOf]
    exact res_flat s t k (.bl _)
  · cases e
abbrev ltF := cmpF (fun i j => decide (i < j)) fun a b => decide (a < b)
abbrev leF := cmpF (fun i j => decide (i ≤ j)) fun a b => !decide (b < a)
abbrev gtF := cmpF (fun i j => decide (j < i)) fun a b => decide (b < a)
abbrev geF := cmpF (fun i j => decide (j ≤ i)) fun a b => !decide (a < b)
theorem op_ltA : OpR X (compareOp .Lt) (rCmpA (fun i j => decide (i < j)) fun a b => decide (a < b)) := op_lt.or op_lt_str
theorem op_leA : OpR X (compareOp .LtE) (rCmpA (fun i j => decide (i ≤ j)) fun a b => !decide (b < a)) := op_le.or op_le_str
theorem op_gtA : OpR X (compareOp .Gt) (rCmpA (fun i j => decide (j < i)) fun a b => decide (b < a)) := op_gt.or op_gt_str
theorem op_geA : OpR X (compareOp .GtE) (rCmpA (fun i j => decide (j ≤ i)) fun a b => !decide (a < b)) := op_ge.or op_ge_str
/-! ### == -/
mutual
def D.eqv : D → D → Bool
  | .non, .non => true
  | .bl a, .bl b => a == b
  | .bl a, .int j => (if a then 1 else 0) == j
  | .int i, .bl b => i == (if b then 1 else 0)
  | .int i, .int j => i == j
  | .str x, .str y => x == y
  | .lst xs, .lst ys => D.eqvL xs ys
  | .tup xs, .tup ys => D.eqvL xs ys
  | _, _ => false
def D.eqvL : List D → List D → Bool
  | [], [] => true
  | x :: xs, y :: ys => D.eqv x y && D.eqvL xs ys
  | _, _ => false
end
mutual
def D.py : D → PyData
  | .non => .none
  | .bl b => .bool b
  | .int i => .int i
  | .str s => .str ⟨s.toArray⟩
  | .lst l => .list (D.pyL l)
  | .tup l => .tuple (D.pyL l)
  | .dic _ _ => .dict []
  | .scr _ => .dict []
def D.pyL : List D → List PyData
  | [] => []
  | d :: ds => d.py :: D.pyL ds
end
mutual
def D.shp : Nat → D → Bool
  | _, .non => true
  | _, .bl _ => true
  | _, .int _ => true
  | _, .str s => s.all fun c => decide (c < 1114112)
  | 0, .lst _ => false
  | n + 1, .lst l => D.shpL n l
  | 0, .tup _ => false
  | n + 1, .tup l => D.shpL n l
  | _, .dic _ _ => false
  | _, .scr _ => false
def D.shpL : Nat → List D → Bool
  | _, [] => true
  | n, d :: ds => D.shp n d && D.shpL n ds
end
theorem str_beq (x y : List Nat) : ((⟨x.toArray⟩ : Str) == ⟨y.toArray⟩) = (x == y) := by
  rw [Bool.eq_iff_iff]
  simp
mutual
theorem eqv_py : ∀ a b : D, PyData.eqv a.py b.py = a.eqv b
  | .non, b => by cases b <;> simp [D.py, D.eqv, PyData.eqv]
  | .bl x, b => by cases b <;> simp [D.py, D.eqv, PyData.eqv]
  | .int i, b => by cases b <;> simp [D.py, D.eqv, PyData.eqv]
  | .str s, b => by
    cases b with
    | str t => simp only [D.py, D.eqv, PyData.eqv]; exact str_beq s t
    | _ => simp [D.py, D.eqv, PyData.eqv]
  | .lst l, b => by
    cases b with
    | lst m => simp only [D.py, D.eqv, PyData.eqv]; exact eqv_pyL l m
    | _ => simp [D.py, D.eqv, PyData.eqv]
  | .tup l, b => by
    cases b with
    | tup m => simp only [D.py, D.eqv, PyData.eqv]; exact eqv_pyL l m
    | _ => simp [D.py, D.eqv, PyData.eqv]
  | .dic ks vs, b => by cases b <;> simp [D.py, D.eqv, PyData.eqv]
  | .scr ns, b => by cases b <;> simp [D.py, D.eqv, PyData.eqv]
theorem eqv_pyL : ∀ a b : List D, PyData.eqvAll (D.pyL a) (D.pyL b) = D.eqvL a b
  | [], [] => by simp [D.pyL, D.eqvL, PyData.eqvAll]
  | [], _ :: _ => by simp [D.pyL, D.eqvL, PyData.eqvAll]
  | _ :: _, [] => by simp [D.pyL, D.eqvL, PyData.eqvAll]
  | x :: xs, y :: ys => by simp only [D.pyL, D.eqvL, PyData.eqvAll]; rw [eqv_py x y, eqv_pyL xs ys]
end
mutual
theorem shp_can : ∀ (n : Nat) (d : D), d.shp n = true → d.py.canLay0 = true ∧ d.py.depth ≤ n
  | n, .non, _ => by simp [D.py, PyData.canLay0, PyData.depth]
  | n, .bl _, _ => by simp [D.py, PyData.canLay0, PyData.depth]
  | n, .int _, _ => by simp [D.py, PyData.canLay0, PyData.depth]
  | n, .str s, h => by
    simp only [D.py, PyData.canLay0, PyData.depth]
    refine ⟨?_, Nat.zero_le _⟩
    unfold D.shp at h
    simpa [PySem.PyData.strOk, PyData.strOk] using h
  | 0, .lst _, h => by unfold D.shp at h; cases h
  | n + 1, .lst l, h => by
    unfold D.shp at h
    obtain ⟨h1, h2⟩ := shp_canL n l h
    simp only [D.py, PyData.canLay0, PyData.depth]
    exact ⟨h1, by omega⟩
  | 0, .tup _, h => by unfold D.shp at h; cases h
  | n + 1, .tup l, h => by
    unfold D.shp at h
    obtain ⟨h1, h2⟩ := shp_canL n l h
    simp only [D.py, PyData.canLay0, PyData.depth]
    exact ⟨h1, by omega⟩
  | n, .dic _ _, h => by unfold D.shp at h; cases h
  | n, .scr _, h => by unfold D.shp at h; cases h
theorem shp_canL : ∀ (n : Nat) (ds : List D), D.shpL n ds = true → PyData.canLayAll0 (D.pyL ds) = true ∧ PyData.depthAll (D.pyL ds) ≤ n
  | n, [], _ => by simp [D.pyL, PyData.canLayAll0, PyData.depthAll]
  | n, d :: ds, h => by
    unfold D.shpL at h
    obtain ⟨h1, h2⟩ := Bool.and_eq_true_iff.mp h
    obtain ⟨k1, k2⟩ := shp_can n d h1
    obtain ⟨k3, k4⟩ := shp_canL n ds h2
    simp only [D.pyL, PyData.canLayAll0, PyData.depthAll]
    exact ⟨by rw [k1, k3]; rfl, Nat.max_le.mpr ⟨k2, k4⟩⟩
end
theorem shp_shaped {n : Nat} (hn : n ≤ 64) {d : D} (h : d.shp n = true) : SeqAt.shaped d.py = true := by
  obtain ⟨h1, h2⟩ := shp_can n d h
  unfold SeqAt.shaped
  rw [h1]
  simp only [Bool.true_and, decide_eq_true_eq]
  omega
mutual
theorem rep_dp {K : Frag} {H : Hp} : ∀ (n : Nat) (d : D) (v : V), d.shp n = true → Rep K H v d → Dp K H v d.py
  | _, .non, _, _, h => by cases h; simp only [D.py]; exact .non
  | _, .bl b, _, _, h => by cases h; simp only [D.py]; exact .bl b
  | _, .int i, _, _, h => by cases h; simp only [D.py]; exact .int i
  | _, .str s, _, _, h => by cases h; simp only [D.py]; exact .str _
  | 0, .lst l, _, hs, h => by unfold D.shp at hs; cases hs
  | n + 1, .lst l, _, hs, h => by
    unfold D.shp at hs
    cases h with
    | lst q r => simp only [D.py]; exact .lst (SqL.of q) (rep_dpL n l _ hs r)
  | 0, .tup l, _, hs, h => by unfold D.shp at hs; cases hs
  | n + 1, .tup l, _, hs, h => by
    unfold D.shp at hs
    cases h with
    | tup q r => simp only [D.py]; exact .tup (SqT.of q) (rep_dpL n l _ hs r)
  | _, .dic _ _, _, hs, _ => by unfold D.shp at hs; cases hs
  | _, .scr _, _, hs, _ => by unfold D.shp at hs; cases hs
theorem rep_dpL {K : Frag} {H : Hp} : ∀ (n : Nat) (ds : List D) (vs : List V), D.shpL n ds = true → RepL K H vs ds → DpAll K H vs (D.pyL ds)
  | _, [], _, _, h => by cases h; simp only [D.pyL]; exact .nil
  | n, d :: ds, _, hs, h => by
    unfold D.shpL at hs
    obtain ⟨h1, h2⟩ := Bool.and_eq_true_iff.mp hs
    cases h with
    | cons a b => simp only [D.pyL]; exact .cons (rep_dp n d _ h1 a) (rep_dpL n ds _ h2 b)
end
/-- plain values that one rule compares -/
def scl : D → D → Bool
  | .non, .non => true
  | .non, .int _ => true
  | .int _, .non => true
  | .non, .bl _ => true
  | .bl _, .non => true
  | .non, .str _ => true
  | .str _, .non => true
  | .int _, .int _ => true
  | .bl _, .bl _ => true
  | .str _, .str _ => true
  | .int _, .str _ => true
  | .str _, .int _ => true
  | .bl _, .str _ => true
  | .str _, .bl _ => true
  | _, _ => false
def eqF : List D → Option D
  | [a, b] => if scl a b = true ∨ (a.shp 16 = true ∧ b.shp 16 = true) then some (.bl (a.eqv b)) else none
  | _ => none
def neF : List D → Option D
  | [a, b] => if scl a b = true ∨ (a.shp 16 = true ∧ b.shp 16 = true) then some (.bl (!a.eqv b)) else none
  | _ => none
theorem eqF_two : Two eqF := fun ds d h => by
  unfold eqF at h
  split at h <;> first | rfl | cases h
theorem neF_two : Two neF := fun ds d h => by
  unfold neF at h
  split at h <;> first | rfl | cases h
theorem eqF_boo : Boo eqF := fun ds d h => by
  unfold eqF at h
  split at h
  · split at h
    · cases h; exact ⟨_, rfl⟩
    · cases h
  · cases h
theorem neF_boo : Boo neF := fun ds d h => by
  unfold neF at h
  split at h
  · split at h
    · cases h; exact ⟨_, rfl⟩
    · cases h
  · cases h
theorem scl_eq {K : Frag} {G H : Hp} {x y : V} {a b : D} (r1 : RepT K G H x a) (r2 : RepT K G H y b) (h : scl a b = true) : scal x y = true ∧ decide (x = y) = a.eqv b := by
  cases r1 <;> cases r2 <;> first | (cases h; done) | (refine ⟨rfl, ?_⟩; simp [D.eqv]; done) | (refine ⟨rfl, ?_⟩; simp only [D.eqv]; rw [Bool.eq_iff_iff]; simp; done)
def rEqA (K : Frag) : R2 := fun x y H Q => rEq x y H Q ∨ rEqD K x y H Q
def rNeA (K : Frag) : R2 := fun x y H Q => rNe x y H Q ∨ rNeD K x y H Q
theorem op_eqA (hu : X.A.units + 64 < cLine) : OpR X (compareOp .Eq) (rEqA X.K) := op_eq.or (op_eqD hu)
theorem op_neA (hu : X.A.units + 64 < cLine) : OpR X (compareOp .NotEq) (rNeA X.K) := op_ne.or (op_neD hu)
theorem eqF_inv {ds : List D} {d : D} (h : eqF ds = some d) : ∃ a b, ds = [a, b] ∧ (scl a b = true ∨ (a.shp 16 = true ∧ b.shp 16 = true)) ∧ d = .bl (a.eqv b) := by
  unfold eqF at h
  split at h
  · rename_i a b
    by_cases hz : scl a b = true ∨ (a.shp 16 = true ∧ b.shp 16 = true)
    · rw [if_pos hz] at h
      exact ⟨a, b, rfl, hz, (Option.some.inj h).symm⟩
    · rw [if_neg hz] at h
      cases h
  · cases h
theorem neF_inv {ds : List D} {d : D} (h : neF ds = some d) : ∃ a b, ds = [a, b] ∧ (scl a b = true ∨ (a.shp 16 = true ∧ b.shp 16 = true)) ∧ d = .bl (!a.eqv b) := by
  unfold neF at h
  split at h
  · rename_i a b
    by_cases hz : scl a b = true ∨ (a.shp 16 = true ∧ b.shp 16 = true)
    · rw [if_pos hz] at h
      exact ⟨a, b, rfl, hz, (Option.some.inj h).symm⟩
    · rw [if_neg hz] at h
      cases h
  · cases h
theorem eqF_ok (hK : C.K = X.K) : Ok2 C (rEqA X.K) eqF := fun x y a b d G H Q s t r1 r2 e k => by
  obtain ⟨a', b', hq, hz, hd⟩ := eqF_inv e
  cases hq
  subst hd
  rcases hz with hz | ⟨h1, h2⟩
  · obtain ⟨k1, k2⟩ := scl_eq r1 r2 hz
    exact .inl ⟨k1, by rw [k2]; exact res_flat s t k (.bl _)⟩
  · refine .inr ⟨a.py, b.py, ?_, ?_, shp_shaped (by decide) h1, shp_shaped (by decide) h2, ?_⟩
    · rw [← hK]; exact rep_dp 16 a x h1 (r1.all s)
    · rw [← hK]; exact rep_dp 16 b y h2 (r2.all s)
    · rw [eqv_py]; exact res_flat s t k (.bl _)
theorem neF_ok (hK : C.K = X.K) : Ok2 C (rNeA X.K) neF := fun x y a b d G H Q s t r1 r2 e k => by
  obtain ⟨a', b', hq, hz, hd⟩ := neF_inv e
  cases hq
  subst hd
  rcases hz with hz | ⟨h1, h2⟩
  · obtain ⟨k1, k2⟩ := scl_eq r1 r2 hz
    exact .inl ⟨k1, by rw [k2]; exact res_flat s t k (.bl _)⟩
  · refine .inr ⟨a.py, b.py, ?_, ?_, shp_shaped (by decide) h1, shp_shaped (by decide) h2, ?_⟩
    · rw [← hK]; exact rep_dp 16 a x h1 (r1.all s)
    · rw [← hK]; exact rep_dp 16 b y h2 (r2.all s)
    · rw [eqv_py]; exact res_flat s t k (.bl _)
/-! ### is None -/
def isNF : List D → Option D
  | [.non, .non] => some (.bl true)
  | [_, .non] => some (.bl false)
  | _ => none
def notNF : List D → Option D
  | [.non, .non] => some (.bl false)
  | [_, .non] => some (.bl true)
  | _ => none
theorem isNF_two : Two isNF := fun ds d h => by
  unfold isNF at h
  split at h <;> first | rfl | cases h
theorem notNF_two : Two notNF := fun ds d h => by
  unfold notNF at h
  split at h <;> first | rfl | cases h
theorem isNF_boo : Boo isNF := fun ds d h => by
  unfold isNF at h
  split at h <;> first | (cases h; exact ⟨_, rfl⟩) | cases h
theorem notNF_boo : Boo notNF := fun ds d h => by
  unfold notNF at h
  split at h <;> first | (cases h; exact ⟨_, rfl⟩) | cases h
theorem isNF_ok : Ok2 C (fun x y H Q => y = .non ∧ Q (.bl (decide (x = .non))) H) isNF := fun x y a b d G H Q s t r1 r2 e k => by
  unfold isNF at e
  split at e
  · rename_i hq
    cases hq
    cases e
    cases r1
    cases r2
    exact ⟨rfl, res_flat s t k (.bl _)⟩
  · rename_i a' hn hq
    cases hq
    cases e
    cases r2
    refine ⟨rfl, ?_⟩
    have : decide (x = V.non) = false := by
      cases r1 <;> first | rfl | exact absurd rfl hn
    rw [this]
    exact res_flat s t k (.bl _)
  · cases e
theorem notNF_ok : Ok2 C (fun x y H Q => y = .non ∧ Q (.bl (!decide (x = .non))) H) notNF := fun x y a b d G H Q s t r1 r2 e k => by
  unfold notNF at e
  split at e
  · rename_i hq
    cases hq
    cases e
    cases r1
    cases r2
    exact ⟨rfl, res_flat s t k (.bl _)⟩
  · rename_i a' hn hq
    cases hq
    cases e
    cases r2
    refine ⟨rfl, ?_⟩
    have : decide (x = V.non) = false := by
      cases r1 <;> first | rfl | exact absurd rfl hn
    rw [this]
    exact res_flat s t k (.bl _)
  · cases e
/-! ### places -/
def ixF : List D → Option D
  | [.lst l, .int i] => atI l i
  | [.tup l, .int i] => atI l i
  | [.scr l, .int i] => (atI l i).map D.int
  | [.str s, .int i] => if s.length ≤ 16000000 then (atI s i).map fun c => D.str [c] else none
  | _ => none
theorem ixF_two : Two ixF := fun ds d h => by
  unfold ixF at h
  split at h <;> first | rfl | cases h
theorem atI_rep {K : Frag} {G : Hp} {xs : List V} {ds : List D} {i : Int} {d : D} (r : RepL K G xs ds) (h : atI ds i = some d) : ∃ v, atI xs i = some v ∧ Rep K G v d := by
  unfold atI at h ⊢
  rw [r.length]
  cases q : ixN ds.length i with
  | none => rw [q] at h; cases h
  | some j =>
    rw [q] at h
    obtain ⟨v, h1, h2⟩ := r.getD (show ds[j]? = some d from h)
    exact ⟨v, h1, h2⟩
theorem ixF_ok (hK : C.K = X.K) : Ok2 C (rIx X.K) ixF := fun x y a b d G H Q s t r1 r2 e k => by
  unfold ixF at e
  split at e
  · rename_i l i hq
    cases hq
    cases r2
    cases r1 with
    | lst q rr =>
      obtain ⟨v, h1, h2⟩ := atI_rep rr e
      exact .inl ⟨_, _, i, v, rfl, rfl, SqL.of q, h1, res_flat s t k h2⟩
  · rename_i l i hq
    cases hq
    cases r2
    cases r1 with
    | tup g q rr =>
      obtain ⟨v, h1, h2⟩ := atI_rep rr e
      exact .inr (.inl ⟨_, _, i, v, rfl, rfl, SqT.of q, h1, res_flat s t k h2⟩)
  · rename_i l i hq
    cases hq
    cases r2
    cases r1 with
    | scr q =>
      cases z : atI l i with
      | none => rw [z] at e; cases e
      | some n =>
        rw [z] at e
        cases e
        refine .inl ⟨_, _, i, .int n, rfl, rfl, by rw [← hK]; exact q, ?_, res_flat s t k (.int n)⟩
        unfold atI at z ⊢
        rw [List.length_map]
        cases z2 : ixN l.length i with
        | none => rw [z2] at z; cases z
        | some j =>
          rw [z2] at z
          show (l.map V.int)[j]? = some (.int n)
          rw [List.getElem?_map, show l[j]? = some n from z]
          rfl
  · rename_i z i hq
    cases hq
    cases r2
    cases r1
    split at e
    · rename_i hz
      cases z2 : atI z i with
      | none => rw [z2] at e; cases e
      | some c =>
        rw [z2] at e
        cases e
        exact .inr (.inr ⟨_, i, c, rfl, rfl, by rw [strLen]; exact lim16 hz, by rw [strOf]; exact z2, res_flat s t k (.str [c])⟩)
    · cases e
  · cases e
/-! ### slices -/
def cutL {α : Type} (l : List α) (lo hi : Option Int) : List α := (l.drop (HT.sIx l.length 0 lo)).take (HT.sIx l.length l.length hi - HT.sIx l.length 0 lo)
def slF (d : D) (lo hi : Option Int) : Option D := match d with
  | .lst l => some (.lst (cutL l lo hi))
  | .str s => if s.length ≤ 16000000 then some (.str (cutL s lo hi)) else none
  | .tup l => if ¬ (HT.sIx l.length 0 lo = 0 ∧ HT.sIx l.length l.length hi = l.length) then some (.tup (cutL l lo hi)) else none
  | _ => none
def slLF (d : D) (lo hi : Option Int) : Option D := match d with
  | .lst l => some (.lst (cutL l lo hi))
  | _ => none
def sl3 (f : D → Option Int → Option Int → Option D) : List D → Option D
  | [d, .int i, .int j] => f d (some i) (some j)
  | _ => none
def sl1 (f : D → Option Int → Option Int → Option D) : List D → Option D
  | [d, .int i] => f d (some i) none
  | _ => none
def sl2 (f : D → Option Int → Option Int → Option D) : List D → Option D
  | [d, .int j] => f d none (some j)
  | _ => none
def rSlA (K : Frag) : V → Option Int → Option Int → Hp → VK → Prop := fun x lo hi H Q => rSlL K x lo hi H Q ∨ rSlT K x lo hi H Q ∨ rSlS x lo hi H Q
theorem sl_A : SlR X (rSlA X.K) := sl_list.or (sl_tup.or sl_str)
theorem slF_ok (hK : C.K = X.K) {x : V} {d d' : D} {lo hi : Option Int} {G H : Hp} {Q : VK} (s : Same G H) (t : ∀ P ∈ C.tt, TabG H P) (r : RepT C.K G H x d) (e : slF d lo hi = some d') (k : ∀ v G' H', Grow C G H G' H' → Rep C.K G' v d' → Q v H') : rSlA X.K x lo hi H Q := by
  unfold slF at e
  split at e
  · rename_i l
    cases e
    cases r with
    | lst q rr =>
      refine .inl ⟨_, _, rfl, SqL.of q, fun p hp => known_of_new s t k p _ hp (.lst ?_)⟩
      unfold cutV cutL
      rw [rr.length]
      exact (rr.drop _).take _
  · rename_i z
    split at e
    · rename_i hz
      cases e
      cases r
      refine .inr (.inr ⟨_, rfl, by rw [strLen]; exact lim16 hz, ?_⟩)
      have : cutS ⟨z.toArray⟩ lo hi = ⟨(cutL z lo hi).toArray⟩ := by
        unfold cutS cutL
        rw [strLen, strOf]
      rw [this]
      exact res_flat s t k (.str _)
    · cases e
  · rename_i l
    split at e
    · rename_i hw
      cases e
      cases r with
      | tup g q rr =>
        refine .inr (.inl ⟨_, _, rfl, SqT.of q, by rw [rr.length]; exact hw, fun p hp => ?_⟩)
        have gp := s.free hp
        refine k (.ref p) (upd G p (.tup _)) (upd H p (.tup _)) (grow_new s t hp) (.tup upd_same ?_)
        refine RepL.mono (fun b u hb => by rw [upd_ne (ne_of_none hb gp)]; exact hb) _ _ ?_
        unfold cutV cutL
        rw [rr.length]
        exact (rr.drop _).take _
    · cases e
  · cases e
theorem slLF_ok {x : V} {d d' : D} {lo hi : Option Int} {G H : Hp} {Q : VK} (s : Same G H) (r : RepT C.K G H x d) (e : slLF d lo hi = some d') (k : ∀ p o, H p = none → RepO C.K G o d' → Q (.ref p) (upd H p o)) : rSlA X.K x lo hi H Q := by
  unfold slLF at e
  split at e
  · rename_i l
    cases e
    cases r with
    | lst q rr =>
      refine .inl ⟨_, _, rfl, SqL.of q, fun p hp => k p _ hp (.lst ?_)⟩
      unfold cutV cutL
      rw [rr.length]
      exact (rr.drop _).take _
  · cases e
variable {a b c : Expr} {x y z : Ex} {pos p2 : Pos}
theorem evs_cons {a : Ex} {as : List Ex} {e e' : Env'} {rs : List Rv} (h : evs (a :: as) e = some (rs, e')) : ∃ r e1 rs2, ev a e = some (r, e1) ∧ evs as e1 = some (rs2, e') ∧ rs = r :: rs2 := by
  unfold evs at h
  split at h
  · rename_i r e1 q1
    split at h
    · rename_i rs2 e2 q2
      cases h
      exact ⟨r, e1, rs2, q1, q2, rfl⟩
    · cases h
  · cases h
theorem evs_nil {e e' : Env'} {rs : List Rv} (h : evs [] e = some (rs, e')) : rs = [] ∧ e = e' := by
  unfold evs at h
  cases h
  exact ⟨rfl, rfl⟩
theorem gets_cons {e : Env'} {r : Rv} {rs : List Rv} {ds : List D} (h : gets e (r :: rs) = some ds) : ∃ d ds2, r.get e = some d ∧ gets e rs = some ds2 ∧ ds = d :: ds2 := by
  unfold gets at h
  split at h
  · rename_i d q
    split at h
    · rename_i ds2 q2
      cases h
      exact ⟨d, ds2, q, q2, rfl⟩
    · cases h
  · cases h
theorem gets_nil {e : Env'} {ds : List D} (h : gets e [] = some ds) : ds = [] := by
  unfold gets at h
  cases h
  rfl
theorem ev_two {f : List D → Option D} {e e' : Env'} {r : Rv} (h : ev (.op f [x, y]) e = some (r, e')) : ∃ ra e1 rb d1 d2 d, ev x e = some (ra, e1) ∧ ev y e1 = some (rb, e') ∧ ra.get e' = some d1 ∧ rb.get e' = some d2 ∧ f [d1, d2] = some d ∧ r = .pers d := by
  obtain ⟨rs, ds, d, q1, q2, q3, q4⟩ := ev_op h
  obtain ⟨ra, e1, rs2, h1, h2, rfl⟩ := evs_cons q1
  obtain ⟨rb, e2, rs3, h3, h4, rfl⟩ := evs_cons h2
  obtain ⟨rfl, rfl⟩ := evs_nil h4
  obtain ⟨d1, ds1, g1, g2, rfl⟩ := gets_cons q2
  obtain ⟨d2, ds2, g3, g4, rfl⟩ := gets_cons g2
  cases gets_nil g4
  exact ⟨ra, e1, rb, d1, d2, d, h1, h3, g1, g3, q3, q4⟩
theorem ev_three {f : List D → Option D} {e e' : Env'} {r : Rv} (h : ev (.op f [x, y, z]) e = some (r, e')) : ∃ ra e1 rb e2 rc d1 d2 d3 d, ev x e = some (ra, e1) ∧ ev y e1 = some (rb, e2) ∧ ev z e2 = some (rc, e') ∧ ra.get e' = some d1 ∧ rb.get e' = some d2 ∧ rc.get e' = some d3 ∧ f [d1, d2, d3] = some d ∧ r = .pers d := by
  obtain ⟨rs, ds, d, q1, q2, q3, q4⟩ := ev_op h
  obtain ⟨ra, e1, rs2, h1, h2, rfl⟩ := evs_cons q1
  obtain ⟨rb, e2, rs3, h3, h4, rfl⟩ := evs_cons h2
  obtain ⟨rc, e3, rs4, h5, h6, rfl⟩ := evs_cons h4
  obtain ⟨rfl, rfl⟩ := evs_nil h6
  obtain ⟨d1, ds1, g1, g2, rfl⟩ := gets_cons q2
  obtain ⟨d2, ds2, g3, g4, rfl⟩ := gets_cons g2
  obtain ⟨d3, ds3, g5, g6, rfl⟩ := gets_cons g4
  cases gets_nil g6
  exact ⟨ra, e1, rb, e2, rc, d1, d2, d3, d, h1, h3, h5, g1, g3, g5, q3, q4⟩
theorem RepR.int {K : Frag} {G : Hp} {σ : St} {e e' : Env'} {r : Rv} {v : V} {i : Int} (h : RepR K G σ e r v) (g : r.get e' = some (.int i)) : v = .int i := by
  have := get_flat g rfl
  subst this
  cases h
  rfl
/-- what a slice's rule wants, of known things (E), of new ones (F) -/
theorem ce_sl3 (hK : C.K = X.K) (ha : PE X a (tE C x)) (hb : PE X b (tE C y)) (hc : PE X c (tE C z)) : PE X (.Subscript a (.Slice (some b) (some c) none p2) pos) (tE C (.op (sl3 slF) [x, y, z])) := (pe_slice sl_A ha (po_some hb) (po_some hc)).imp fun σ H Q q => by
  obtain ⟨F, G0, G, pn, e, r, e', R, he, k⟩ := q
  obtain ⟨ra, e1, rb, e2, rc, d1, d2, d3, d, h1, h2, h3, g1, g2, g3, hf, rfl⟩ := ev_three he
  unfold sl3 at hf
  split at hf
  · rename_i dd i j hq
    cases hq
    refine ⟨F, G0, G, pn, e, ra, e1, R, h1, fun v G1 H1 R1 s1 r1 => ⟨F, G0, G1, pn, e1, rb, e2, R1, h2, fun w G2 H2 R2 s2 r2 => ⟨i, r2.int g2, F, G0, G2, pn, e2, rc, e', R2, h3, fun u G3 H3 R3 s3 r3 => ⟨j, r3.int g3, ?_⟩⟩⟩⟩
    have rv := ((r1.mono (s2.trans s3)).env (ev_kept y _ _ _ h2).1).env (ev_kept z _ _ _ h3).1
    exact slF_ok hK R3.gh R3.tabs (R3.get rv g1) hf fun v G' H' g rr => k v G' H' (R3.grow g) (((s1.trans s2).trans s3).trans g.gg) rr
  · cases hf
theorem cf_sl3 (ha : PE X a (tE C x)) (hb : PE X b (tE C y)) (hc : PE X c (tE C z)) : PE X (.Subscript a (.Slice (some b) (some c) none p2) pos) (tF C (.op (sl3 slLF) [x, y, z])) := (pe_slice sl_A ha (po_some hb) (po_some hc)).imp fun σ H Q q => by
  obtain ⟨F, G0, G, pn, e, d0, e', R, he, k⟩ := q
  obtain ⟨ra, e1, rb, e2, rc, d1, d2, d3, d, h1, h2, h3, g1, g2, g3, hf, hd⟩ := ev_three he
  cases hd
  unfold sl3 at hf
  split at hf
  · rename_i dd i j hq
    cases hq
    refine ⟨F, G0, G, pn, e, ra, e1, R, h1, fun v G1 H1 R1 s1 r1 => ⟨F, G0, G1, pn, e1, rb, e2, R1, h2, fun w G2 H2 R2 s2 r2 => ⟨i, r2.int g2, F, G0, G2, pn, e2, rc, e', R2, h3, fun u G3 H3 R3 s3 r3 => ⟨j, r3.int g3, ?_⟩⟩⟩⟩
    have rv := ((r1.mono (s2.trans s3)).env (ev_kept y _ _ _ h2).1).env (ev_kept z _ _ _ h3).1
    exact slLF_ok R3.gh (R3.get rv g1) hf (own_of_new R3 ((s1.trans s2).trans s3) k)
  · cases hf
theorem ce_sl1 (hK : C.K = X.K) (ha : PE X a (tE C x)) (hb : PE X b (tE C y)) : PE X (.Subscript a (.Slice (some b) none none p2) pos) (tE C (.op (sl1 slF) [x, y])) := (pe_slice sl_A ha (po_some hb) po_none).imp fun σ H Q q => by
  obtain ⟨F, G0, G, pn, e, r, e', R, he, k⟩ := q
  obtain ⟨ra, e1, rb, d1, d2, d, h1, h2, g1, g2, hf, rfl⟩ := ev_two he
  unfold sl1 at hf
  split at hf
  · rename_i dd i hq
    cases hq
    refine ⟨F, G0, G, pn, e, ra, e1, R, h1, fun v G1 H1 R1 s1 r1 => ⟨F, G0, G1, pn, e1, rb, e', R1, h2, fun w G2 H2 R2 s2 r2 => ⟨i, r2.int g2, ?_⟩⟩⟩
    have rv := (r1.mono s2).env (ev_kept y _ _ _ h2).1
    exact slF_ok hK R2.gh R2.tabs (R2.get rv g1) hf fun v G' H' g rr => k v G' H' (R2.grow g) ((s1.trans s2).trans g.gg) rr
  · cases hf
theorem cf_sl1 (ha : PE X a (tE C x)) (hb : PE X b (tE C y)) : PE X (.Subscript a (.Slice (some b) none none p2) pos) (tF C (.op (sl1 slLF) [x, y])) := (pe_slice sl_A ha (po_some hb) po_none).imp fun σ H Q q => by
  obtain ⟨F, G0, G, pn, e, d0, e', R, he, k⟩ := q
  obtain ⟨ra, e1, rb, d1, d2, d, h1, h2, g1, g2, hf, hd⟩ := ev_two he
  cases hd
  unfold sl1 at hf
  split at hf
  · rename_i dd i hq
    cases hq
    refine ⟨F, G0, G, pn, e, ra, e1, R, h1, fun v G1 H1 R1 s1 r1 => ⟨F, G0, G1, pn, e1, rb, e', R1, h2, fun w G2 H2 R2 s2 r2 => ⟨i, r2.int g2, ?_⟩⟩⟩
    have rv := (r1.mono s2).env (ev_kept y _ _ _ h2).1
    exact slLF_ok R2.gh (R2.get rv g1) hf (own_of_new R2 (s1.trans s2) k)
  · cases hf
theorem ce_sl2 (hK : C.K = X.K) (ha : PE X a (tE C x)) (hb : PE X b (tE C y)) : PE X (.Subscript a (.Slice none (some b) none p2) pos) (tE C (.op (sl2 slF) [x, y])) := (pe_slice sl_A ha po_none (po_some hb)).imp fun σ H Q q => by
  obtain ⟨F, G0, G, pn, e, r, e', R, he, k⟩ := q
  obtain ⟨ra, e1, rb, d1, d2, d, h1, h2, g1, g2, hf, rfl⟩ := ev_two he
  unfold sl2 at hf
  split at hf
  · rename_i dd i hq
    cases hq
    refine ⟨F, G0, G, pn, e, ra, e1, R, h1, fun v G1 H1 R1 s1 r1 => ⟨F, G0, G1, pn, e1, rb, e', R1, h2, fun w G2 H2 R2 s2 r2 => ⟨i, r2.int g2, ?_⟩⟩⟩
    have rv := (r1.mono s2).env (ev_kept y _ _ _ h2).1
    exact slF_ok hK R2.gh R2.tabs (R2.get rv g1) hf fun v G' H' g rr => k v G' H' (R2.grow g) ((s1.trans s2).trans g.gg) rr
  · cases hf
theorem cf_sl2 (ha : PE X a (tE C x)) (hb : PE X b (tE C y)) : PE X (.Subscript a (.Slice none (some b) none p2) pos) (tF C (.op (sl2 slLF) [x, y])) := (pe_slice sl_A ha po_none (po_some hb)).imp fun σ H Q q => by
  obtain ⟨F, G0, G, pn, e, d0, e', R, he, k⟩ := q
  obtain ⟨ra, e1, rb, d1, d2, d, h1, h2, g1, g2, hf, hd⟩ := ev_two he
  cases hd
  unfold sl2 at hf
  split at hf
  · rename_i dd i hq
    cases hq
    refine ⟨F, G0, G, pn, e, ra, e1, R, h1, fun v G1 H1 R1 s1 r1 => ⟨F, G0, G1, pn, e1, rb, e', R1, h2, fun w G2 H2 R2 s2 r2 => ⟨i, r2.int g2, ?_⟩⟩⟩
    have rv := (r1.mono s2).env (ev_kept y _ _ _ h2).1
    exact slLF_ok R2.gh (R2.get rv g1) hf (own_of_new R2 (s1.trans s2) k)
  · cases hf
end
end Mi

/-! Built-in functions, methods, displays. -/
namespace Mi
open PySem PySem.Spec PyProof.Rows L2 GxR
section
variable {X : Cx} {C : Cfg}
/-! ### len -/
def lenF : List D → Option D
  | [.str s] => if s.length ≤ 16000000 then some (.int s.length) else none
  | [.lst l] => some (.int l.length)
  | [.tup l] => some (.int l.length)
  | [.scr l] => some (.int l.length)
  | _ => none
theorem lenF_ok (hK : C.K = X.K) : OkN C (fun xs H Q => ∃ x n, xs = [x] ∧ LenV X.K x H n ∧ Q (.int n) H) lenF := fun vs ds d G H Q s t r e k => by
  unfold lenF at e
  split at e
  · rename_i z
    split at e
    · rename_i hz
      cases e
      obtain ⟨v, rfl, rv⟩ := repTs_one r
      cases rv
      exact ⟨_, z.length, rfl, ⟨by rw [strLen]; exact lim16 hz, (strLen z).symm⟩, res_flat s t k (.int _)⟩
    · cases e
  · rename_i l
    cases e
    obtain ⟨v, rfl, rv⟩ := repTs_one r
    cases rv with
    | lst q rr => exact ⟨_, l.length, rfl, .inl ⟨_, SqL.of q, rr.length.symm⟩, res_flat s t k (.int _)⟩
  · rename_i l
    cases e
    obtain ⟨v, rfl, rv⟩ := repTs_one r
    cases rv with
    | tup g q rr => exact ⟨_, l.length, rfl, .inr ⟨_, SqT.of q, rr.length.symm⟩, res_flat s t k (.int _)⟩
  · rename_i l
    cases e
    obtain ⟨v, rfl, rv⟩ := repTs_one r
    cases rv with
    | scr q => exact ⟨_, l.length, rfl, .inl ⟨_, by rw [← hK]; exact q, (List.length_map ..).symm⟩, res_flat s t k (.int _)⟩
  · cases e
/-! ### numbers -/
def intF : List D → Option D
  | [.int i] => some (.int i)
  | [.bl b] => some (.int (if b then 1 else 0))
  | _ => none
theorem intF_ok : OkN C (fun xs H Q => (∃ i, xs = [.int i] ∧ Q (.int i) H) ∨ ∃ k, xs = [.bl k] ∧ Q (.int (if k then 1 else 0)) H) intF := fun vs ds d G H Q s t r e k => by
  unfold intF at e
  split at e
  · cases e
    obtain ⟨v, rfl, rv⟩ := repTs_one r
    cases rv
    exact .inl ⟨_, rfl, res_flat s t k (.int _)⟩
  · cases e
    obtain ⟨v, rfl, rv⟩ := repTs_one r
    cases rv
    exact .inr ⟨_, rfl, res_flat s t k (.int _)⟩
  · cases e
def absF : List D → Option D
  | [.int i] => some (.int (if i < 0 then -i else i))
  | _ => none
theorem absF_ok : OkN C (fun xs H Q => ∃ i, xs = [.int i] ∧ Q (.int (if i < 0 then -i else i)) H) absF := fun vs ds d G H Q s t r e k => by
  unfold absF at e
  split at e
  · cases e
    obtain ⟨v, rfl, rv⟩ := repTs_one r
    cases rv
    exact ⟨_, rfl, res_flat s t k (.int _)⟩
  · cases e
def max2F : List D → Option D
  | [.int i, .int j] => some (.int (if j > i then j else i))
  | _ => none
def min2F : List D → Option D
  | [.int i, .int j] => some (.int (if j < i then j else i))
  | _ => none
theorem max2F_ok : OkN C (fun xs H Q => ∃ i j, xs = [.int i, .int j] ∧ Q (.int (if j > i then j else i)) H) max2F := fun vs ds d G H Q s t r e k => by
  unfold max2F at e
  split at e
  · cases e
    obtain ⟨v, w, rfl, rv, rw'⟩ := repTs_two r
    cases rv
    cases rw'
    exact ⟨_, _, rfl, res_flat s t k (.int _)⟩
  · cases e
theorem min2F_ok : OkN C (fun xs H Q => ∃ i j, xs = [.int i, .int j] ∧ Q (.int (if j < i then j else i)) H) min2F := fun vs ds d G H Q s t r e k => by
  unfold min2F at e
  split at e
  · cases e
    obtain ⟨v, w, rfl, rv, rw'⟩ := repTs_two r
    cases rv
    cases rw'
    exact ⟨_, _, rfl, res_flat s t k (.int _)⟩
  · cases e
/-! ### tuple(..), list(..) -/
def tupleF : List D → Option D
  | [.lst l] => some (.tup l)
  | [.tup l] => some (.tup l)
  | _ => none
theorem tupleF_ok : OkN C (fun xs H Q => ∃ p ys, xs = [.ref p] ∧ ((SqL X.K H p ys ∧ ∀ l, H l = none → Q (.ref l) (upd H l (.tup ys))) ∨ (SqT X.K H p ys ∧ Q (.ref p) H))) tupleF := fun vs ds d G H Q s t r e k => by
  unfold tupleF at e
  split at e
  · rename_i l
    cases e
    obtain ⟨v, rfl, rv⟩ := repTs_one r
    cases rv with
    | lst q rr =>
      refine ⟨_, _, rfl, .inl ⟨SqL.of q, fun p hp => ?_⟩⟩
      have gp := s.free hp
      exact k (.ref p) (upd G p (.tup _)) (upd H p (.tup _)) (grow_new s t hp) (.tup upd_same (rr.mono fun b u hb => by rw [upd_ne (ne_of_none hb gp)]; exact hb))
  · rename_i l
    cases e
    obtain ⟨v, rfl, rv⟩ := repTs_one r
    cases rv with
    | tup g q rr => exact ⟨_, _, rfl, .inr ⟨SqT.of q, res_flat s t k (.tup g rr)⟩⟩
  · cases e
def listF1 : List D → Option D
  | [.lst l] => some (.lst l)
  | [.tup l] => some (.lst l)
  | _ => none
theorem listF1_ok : OkNF C (fun xs H Q => ∃ p ys, xs = [.ref p] ∧ (SqL X.K H p ys ∨ SqT X.K H p ys) ∧ ∀ l, H l = none → Q (.ref l) (upd H l (.lst ys))) listF1 := fun vs ds d G H Q s t r e k => by
  unfold listF1 at e
  split at e
  · cases e
    obtain ⟨v, rfl, rv⟩ := repTs_one r
    cases rv with
    | lst q rr => exact ⟨_, _, rfl, .inl (SqL.of q), fun p hp => k p _ hp (.lst rr)⟩
  · cases e
    obtain ⟨v, rfl, rv⟩ := repTs_one r
    cases rv with
    | tup g q rr => exact ⟨_, _, rfl, .inr (SqT.of q), fun p hp => k p _ hp (.lst rr)⟩
  · cases e
/-! ### displays -/
def lstF : List D → Option D := fun ds => if ds.length ≤ 16000000 then some (.lst ds) else none
def tupF1 : List D → Option D := fun ds => if ds.length ≤ 16000000 then some (.tup ds) else none
theorem lstF_ok : OkMF C (fun xs H Q => xs.length ≤ sizeLine ∧ ∀ p, H p = none → Q (.ref p) (upd H p (.lst xs))) lstF := fun vs ds d G H Q s t r e k => by
  unfold lstF at e
  split at e
  · rename_i hz
    cases e
    exact ⟨by rw [r.length]; exact lim16 hz, fun p hp => k p _ hp (.lst r)⟩
  · cases e
theorem tupF1_ok : OkM C (fun xs H Q => xs.length ≤ sizeLine ∧ ∀ p, H p = none → Q (.ref p) (upd H p (.tup xs))) tupF1 := fun vs ds d G H Q s t r e k => by
  unfold tupF1 at e
  split at e
  · rename_i hz
    cases e
    refine ⟨by rw [r.length]; exact lim16 hz, fun p hp => ?_⟩
    have gp := s.free hp
    exact k (.ref p) (upd G p (.tup _)) (upd H p (.tup _)) (grow_new s t hp) (.tup upd_same (r.mono fun b u hb => by rw [upd_ne (ne_of_none hb gp)]; exact hb))
  · cases e
variable {es : List Expr} {xs : List Ex} {a b c o : Expr} {x y z : Ex} {pos p apos : Pos}
theorem ce_tup {n : Nat} (h : PA X es (tA C xs)) : PE X (.Tuple es n pos) (tE C (.mk tupF1 xs)) := (pe_tup h).imp fun σ H Q q => tE_mk tupF1_ok q
theorem cf_lst (h : PA X es (tA C xs)) : PE X (.List es pos) (tF C (.mk lstF xs)) := (pe_lst h).imp fun σ H Q q => tF_mk lstF_ok q
theorem ce_lst (h : PA X es (tA C xs)) : PE X (.List es pos) (tE C (.mk lstF xs)) := cf_ce (cf_lst h) mk_pers
/-- from a rule for new things to one for known things -/
theorem cf_op {a : Expr} {f : List D → Option D} (h : PE X a (tF C (.op f xs))) : PE X a (tE C (.op f xs)) := cf_ce h op_pers
theorem cf_lcE {a : Expr} {g : List D → Option (List D)} {vs : List Nat} {tg : Tg} {cs : List Ex} (h : PE X a (tF C (.lc g xs vs tg cs x))) : PE X a (tE C (.lc g xs vs tg cs x)) := cf_ce h lc_pers
/-! ### isinstance -/
def D.ty : D → String
  | .non => "NoneType"
  | .bl _ => "bool"
  | .int _ => "int"
  | .str _ => "str"
  | .tup _ => "tuple"
  | .lst _ => "list"
  | .scr _ => "list"
  | .dic _ _ => "dict"
/-- the classes asked by number: int str bool tuple list dict -/
inductive Ty where
  | int | str | bool | tuple | list | dict
def Ty.nm : Ty → String
  | .int => "int"
  | .str => "str"
  | .bool => "bool"
  | .tuple => "tuple"
  | .list => "list"
  | .dict => "dict"
def isT (d : D) : Ty → Bool
  | .int => (match d with
    | .int _ => true
    | .bl _ => true
    | _ => false)
  | .bool => (match d with
    | .bl _ => true
    | _ => false)
  | .str => (match d with
    | .str _ => true
    | _ => false)
  | .tuple => (match d with
    | .tup _ => true
    | _ => false)
  | .list => (match d with
    | .lst _ => true
    | .scr _ => true
    | _ => false)
  | .dict => (match d with
    | .dic _ _ => true
    | _ => false)
def isiF (ts : List Ty) : List D → Option D
  | [d] => some (.bl (ts.any fun t => isT d t))
  | _ => none
theorem isiF_boo {ts : List Ty} : Boo (isiF ts) := fun ds d h => by
  unfold isiF at h
  split at h
  · cases h; exact ⟨_, rfl⟩
  · cases h
theorem kitOf (d : D) (t : Ty) : kitB d.ty t.nm = some (isT d t) := by
  cases d <;> cases t <;> first | decide +kernel | rfl
theorem tyx_sql {K : Frag} {H : Hp} {a : Addr} {xs : List V} (h : SqL K H a xs) : TyX K H (.ref a) (.type "list") := by
  rcases h with (h | ⟨o, h⟩) | ⟨o, its, n, h1, h2, _⟩
  · exact .base (.lst h)
  · exact .base (.frz h)
  · exact .kList h1 h2
theorem tyx_of {K : Frag} {G H : Hp} {v : V} {d : D} (r : RepT K G H v d) : TyX K H v (.type d.ty) := by
  cases r with
  | non => exact .base .non
  | bl b => exact .base (.bl b)
  | int i => exact .base (.int i)
  | str s => exact .base (.str _)
  | tup g q rr => exact .base (.tup q)
  | lst q rr => exact .base (.lst q)
  | scr q => exact tyx_sql q
  | dK q e rr => exact .base (.dK q)
  | dT q e rr => exact .base (.dT q)
/-- isinstance(a, T) -/
theorem ce_isi (hK : C.K = X.K) {T : Ty} (h : ∀ {te : TE}, PE X a te → PE X o (tCB (rIsi X.K) (tCons te (tCons (tC (.ty T.nm)) tNil)))) (ha : PE X a (tE C x)) : PE X o (tE C (.op (isiF [T]) [x])) := (h ha).imp fun σ H Q q => by
  obtain ⟨F, G0, G, pn, e, r, e', R, he, k⟩ := q
  obtain ⟨rs, ds, d, q1, q2, q3, rfl⟩ := ev_op he
  obtain ⟨r1, e1, rs2, h1, h2, rfl⟩ := evs_cons q1
  obtain ⟨rfl, rfl⟩ := evs_nil h2
  obtain ⟨d1, ds1, g1, g2, rfl⟩ := gets_cons q2
  cases gets_nil g2
  cases q3
  refine ⟨F, G0, G, pn, e, r1, _, R, h1, fun v G1 H1 R1 s1 rv => ?_⟩
  refine ⟨v, .ty T.nm, .type d1.ty, .type T.nm, isT d1 T, rfl, .ty _, ?_, kit_ty (kitOf d1 T), ?_⟩
  · rw [← hK]; exact tyx_of (R1.get rv g1)
  · have := k (.bl _) G1 H1 R1 s1 (.bl _)
    simpa using this
theorem kitAny_of {K : Frag} (d : D) : ∀ ts : List Ty, PySem.W.kitAny K (.type d.ty) (ts.map fun t => Value.type t.nm) = some (ts.any fun t => isT d t)
  | [] => rfl
  | t :: ts => by
    refine kitAny_cons (b := isT d t) (kit_ty (kitOf d t)) (fun hb => ?_) (fun hb => ?_)
    · rw [kitAny_of d ts, List.any_cons, hb]
      rfl
    · rw [List.any_cons, hb]
      rfl
theorem cls_all : ∀ ts : List Ty, Paired ClsV (ts.map fun t => V.ty t.nm) (ts.map fun t => Value.type t.nm)
  | [] => .nil
  | t :: ts => .cons (.ty _) (cls_all ts)
/-- isinstance(a, (T, U)) -/
theorem ce_isi2 (hK : C.K = X.K) {T U : Ty} (h : ∀ {te : TE}, PE X a te → PE X o (tCB (rIsiT X.K) (tCons te (tCons (tTup (tCons (tC (.ty T.nm)) (tCons (tC (.ty U.nm)) tNil))) tNil)))) (ha : PE X a (tE C x)) : PE X o (tE C (.op (isiF [T, U]) [x])) := (h ha).imp fun σ H Q q => by
  obtain ⟨F, G0, G, pn, e, r, e', R, he, k⟩ := q
  obtain ⟨rs, ds, d, q1, q2, q3, rfl⟩ := ev_op he
  obtain ⟨r1, e1, rs2, h1, h2, rfl⟩ := evs_cons q1
  obtain ⟨rfl, rfl⟩ := evs_nil h2
  obtain ⟨d1, ds1, g1, g2, rfl⟩ := gets_cons q2
  cases gets_nil g2
  cases q3
  refine ⟨F, G0, G, pn, e, r1, _, R, h1, fun v G1 H1 R1 s1 rv => ⟨by show 2 ≤ sizeLine; decide, fun p hp => ?_⟩⟩
  have R2 := R1.grow (grow_own (o := .tup [V.ty T.nm, V.ty U.nm]) R1.gh R1.tabs hp)
  refine ⟨v, p, _, .type d1.ty, [Value.type T.nm, Value.type U.nm], (([T, U] : List Ty).any fun t => isT d1 t), rfl, upd_same, cls_all [T, U], ?_, kitAny_of d1 [T, U], k (.bl _) G1 _ R2 s1 (.bl _)⟩
  rw [← hK]
  exact tyx_of (R2.get rv g1)
/-! ### methods of texts -/
theorem get_str {r : Rv} {K : Frag} {G : Hp} {σ : St} {e e' : Env'} {v : V} {s : List Nat} (h : RepR K G σ e r v) (g : r.get e' = some (.str s)) : v = .str ⟨s.toArray⟩ := by
  have := get_flat g rfl
  subst this
  cases h
  rfl
/-- a method of a text with arguments -/
theorem ce_strm {r : V → List V → Hp → VK → Prop} {f : List D → Option D} (ok : OkN C (fun vs H Q => ∃ v us, vs = v :: us ∧ r v us H Q) f) (hf : ∀ ds d, f ds = some d → ∃ s ds2, ds = .str s :: ds2)
    (h : ∀ {te : TE} {t : TA}, PE X o te → PA X es t → PE X c (tBM X.K "str" r te t)) (ho : PE X o (tE C x)) (ha : PA X es (tA C xs)) : PE X c (tE C (.op f (x :: xs))) := (h ho ha).imp fun σ H Q q => by
  have q0 := q
  obtain ⟨F, G0, G, pn, e, rr, e', R, he, k⟩ := q
  obtain ⟨rs, ds, d, q1, q2, q3, rfl⟩ := ev_op he
  obtain ⟨r1, e1, rs2, h1, h2, rfl⟩ := evs_cons q1
  obtain ⟨d1, ds1, g1, g2, rfl⟩ := gets_cons q2
  obtain ⟨s, ds2, z⟩ := hf _ _ q3
  cases z
  refine ⟨F, G0, G, pn, e, r1, e1, R, h1, fun v G1 H1 R1 s1 rv => ?_⟩
  have hv := get_str rv g1
  subst hv
  refine ⟨rfl, F, G0, G1, pn, e1, rs2, e', R1, h2, fun us G2 H2 R2 s2 ru => ?_⟩
  obtain ⟨v, us', e3, h3⟩ := ok (.str ⟨s.toArray⟩ :: us) (.str s :: ds1) d G2 H2 Q R2.gh R2.tabs (.cons (.str s) (R2.gets ru g2)) q3 fun v G3 H3 g rw' => k v G3 H3 (R2.grow g) ((s1.trans s2).trans g.gg) rw'
  cases e3
  exact h3
/-- the codes of texts -/
def strsOf : List D → Option (List (List Nat))
  | [] => some []
  | .str s :: ds => (strsOf ds).map fun l => s :: l
  | _ :: _ => none
theorem strsOf_map : ∀ {ds : List D} {l : List (List Nat)}, strsOf ds = some l → ds = l.map D.str
  | [], l, h => by cases h; rfl
  | .str s :: ds, l, h => by
    unfold strsOf at h
    cases q : strsOf ds with
    | none => rw [q] at h; cases h
    | some m =>
      rw [q] at h
      cases h
      rw [strsOf_map q] <;> rfl
  | .non :: ds, l, h => by unfold strsOf at h; cases h
  | .bl _ :: ds, l, h => by unfold strsOf at h; cases h
  | .int _ :: ds, l, h => by unfold strsOf at h; cases h
  | .tup _ :: ds, l, h => by unfold strsOf at h; cases h
  | .lst _ :: ds, l, h => by unfold strsOf at h; cases h
  | .dic _ _ :: ds, l, h => by unfold strsOf at h; cases h
  | .scr _ :: ds, l, h => by unfold strsOf at h; cases h
def joinL' (sep : List Nat) : List (List Nat) → List Nat
  | [] => []
  | [p] => p
  | p :: q :: r => p ++ (sep ++ joinL' sep (q :: r))
def joinF : List D → Option D
  | [.str sep, .lst l] => (match strsOf l with
    | some ss => if (ss.map List.length).sum + ss.length * sep.length ≤ 16000000 then some (.str (joinL' sep ss)) else none
    | none => none)
  | [.str sep, .tup l] => (match strsOf l with
    | some ss => if (ss.map List.length).sum + ss.length * sep.length ≤ 16000000 then some (.str (joinL' sep ss)) else none
    | none => none)
  | _ => none
theorem join_is (sep : List Nat) (ss : List (List Nat)) : Txt.join ⟨sep.toArray⟩ (ss.map fun s => (⟨s.toArray⟩ : Str)) = ⟨(joinL' sep ss).toArray⟩ := by
  rw [TL.join_eq]
  have h : TL.tl (Str.join ⟨sep.toArray⟩ (ss.map fun s => (⟨s.toArray⟩ : Str))) = joinL' sep ss := by
    rw [TL.tl_join]
    have e : (ss.map fun s => (⟨s.toArray⟩ : Str)).map TL.tl = ss := by
      rw [List.map_map]
      have : (TL.tl ∘ fun (s : List Nat) => (⟨s.toArray⟩ : Str)) = id := by
        funext s
        exact strOf s
      rw [this, List.map_id]
    have e3 : TL.tl (⟨sep.toArray⟩ : Str) = sep := strOf sep
    rw [e, e3]
    have : ∀ l : List (List Nat), TL.joinL sep l = joinL' sep l := by
      intro l
      induction l with
      | nil => rfl
      | cons p l ih =>
        cases l with
        | nil => rfl
        | cons q r =>
          show p ++ (sep ++ TL.joinL sep (q :: r)) = p ++ (sep ++ joinL' sep (q :: r))
          rw [ih]
    exact this ss
  generalize Str.join ⟨sep.toArray⟩ (ss.map fun s => (⟨s.toArray⟩ : Str)) = z at h ⊢
  obtain ⟨c⟩ := z
  have h2 : c.toList = joinL' sep ss := h
  rw [← h2]
theorem sum_len (ss : List (List Nat)) : ((ss.map fun s => (⟨s.toArray⟩ : Str)).map (·.length)).sum = (ss.map List.length).sum := by
  rw [List.map_map]
  exact congrArg List.sum (List.map_congr_left fun s _ => strLen s)
theorem joinF_str : ∀ ds d, joinF ds = some d → ∃ s ds2, ds = .str s :: ds2 := fun ds d h => by
  unfold joinF at h
  split at h
  · exact ⟨_, _, rfl⟩
  · exact ⟨_, _, rfl⟩
  · cases h
theorem joinF_ok (hK : C.K = X.K) : OkN C (fun vs H Q => ∃ v us, vs = v :: us ∧ (∃ a p, ∃ ys : List Str, v = .str a ∧ us = [.ref p] ∧ (SqL X.K H p (ys.map V.str) ∨ SqT X.K H p (ys.map V.str)) ∧
    (ys.map (·.length)).sum + ys.length * a.length ≤ 16777216 ∧ Q (.str (Txt.join a ys)) H)) joinF := fun vs ds d G H Q s t r e k => by
  unfold joinF at e
  split at e
  · rename_i sep l
    split at e
    · rename_i ss hs
      split at e
      · rename_i hz
        cases e
        obtain ⟨v, w, rfl, rv, rw'⟩ := repTs_two r
        cases rv
        cases rw' with
        | lst q rr =>
          rw [strsOf_map hs] at rr
          refine ⟨_, _, rfl, _, _, ss.map fun s => ⟨s.toArray⟩, rfl, rfl, .inl (SqL.of (by rw [q, rr.strs])), ?_, ?_⟩
          · rw [sum_len, List.length_map, strLen]; omega
          · rw [join_is]; exact res_flat s t k (.str _)
      · cases e
    · cases e
  · rename_i sep l
    split at e
    · rename_i ss hs
      split at e
      · rename_i hz
        cases e
        obtain ⟨v, w, rfl, rv, rw'⟩ := repTs_two r
        cases rv
        cases rw' with
        | tup g q rr =>
          rw [strsOf_map hs] at rr
          refine ⟨_, _, rfl, _, _, ss.map fun s => ⟨s.toArray⟩, rfl, rfl, .inr (SqT.of (by rw [q, rr.strs])), ?_, ?_⟩
          · rw [sum_len, List.length_map, strLen]; omega
          · rw [join_is]; exact res_flat s t k (.str _)
      · cases e
    · cases e
  · cases e
/-! ### one sign's places in a text -/
/-- the last place of c, from place i on; acc: the last one before -/
def rfindA (c : Nat) : List Nat → Nat → Int → Int
  | [], _, acc => acc
  | a :: s, i, acc => rfindA c s (i + 1) (if a = c then (i : Int) else acc)
def rfindL (s : List Nat) (c : Nat) : Int := rfindA c s 0 (-1)
def findA (c : Nat) : List Nat → Nat → Int
  | [], _ => -1
  | a :: s, i => if a = c then (i : Int) else findA c s (i + 1)
def findL (s : List Nat) (c : Nat) : Int := findA c s 0
theorem at_one (s : List Nat) (c i : Nat) : PySem.StrLaws.At (⟨s.toArray⟩ : Str) ⟨#[c]⟩ (⟨s.toArray⟩ : Str).length i ↔ s[i]? = some c := by
  rw [TL.at_iff (y := ⟨#[c]⟩) (by simp)]
  unfold TL.pre
  have e3 : TL.tl (⟨s.toArray⟩ : Str) = s := strOf s
  rw [e3]
  have e : ((s.drop i).take 1 == [c]) = true ↔ s[i]? = some c := by
    have h : s[i]? = (s.drop i)[0]? := by rw [List.getElem?_drop]; rfl
    rw [h]
    cases q : s.drop i with
    | nil => simp
    | cons a b => simp
  exact e
theorem rfindA_spec (c : Nat) : ∀ (s : List Nat) (i : Nat) (acc : Int), ((∀ j : Nat, s[j]? ≠ some c) ∧ rfindA c s i acc = acc) ∨ ∃ j : Nat, s[j]? = some c ∧ (∀ k : Nat, j < k → s[k]? ≠ some c) ∧ rfindA c s i acc = ((i + j : Nat) : Int)
  | [], i, acc => .inl ⟨fun j => by simp, rfl⟩
  | a :: s, i, acc => by
    unfold rfindA
    rcases rfindA_spec c s (i + 1) (if a = c then (i : Int) else acc) with ⟨h1, h2⟩ | ⟨j, h1, h2, h3⟩
    · by_cases hc : a = c
      · rw [if_pos hc] at h2 ⊢
        refine .inr ⟨0, by simp [hc], fun k hk => ?_, by rw [h2]; rfl⟩
        cases k with
        | zero => exact absurd hk (Nat.lt_irrefl 0)
        | succ k => exact h1 k
      · rw [if_neg hc] at h2 ⊢
        refine .inl ⟨fun j => ?_, h2⟩
        cases j with
        | zero => simpa using hc
        | succ j => exact h1 j
    · refine .inr ⟨j + 1, h1, fun k hk => ?_, by rw [h3]; congr 1; omega⟩
      cases k with
      | zero => exact absurd hk (Nat.not_lt_zero _)
      | succ k => exact h2 k (by omega)
theorem rfind_is (s : List Nat) (c : Nat) : Txt.rfind ⟨s.toArray⟩ ⟨#[c]⟩ = rfindL s c := by
  unfold Txt.rfind rfindL
  rcases StrLaws.last_spec ⟨s.toArray⟩ ⟨#[c]⟩ with ⟨h1, h2⟩ | ⟨i, h1, h2, h3⟩
  · rw [h1]
    rcases rfindA_spec c s 0 (-1) with ⟨_, k2⟩ | ⟨j, k1, _⟩
    · exact k2.symm
    · exact absurd ((at_one s c j).mpr k1) (h2 j)
  · rw [h1]
    have e1 := (at_one s c i).mp h2
    rcases rfindA_spec c s 0 (-1) with ⟨k1, _⟩ | ⟨j, k1, k2, k3⟩
    · exact absurd e1 (k1 i)
    · have : i = j := by
        rcases Nat.lt_trichotomy i j with z | z | z
        · exact absurd ((at_one s c j).mpr k1) (h3 j z)
        · exact z
        · exact absurd e1 (k2 i z)
      rw [k3, this]
      show (j : Int) = ((0 + j : Nat) : Int)
      rw [Nat.zero_add]
theorem count_none (s : List Nat) (c : Nat) (h : ∀ k : Nat, s[k]? ≠ some c) : s.count c = 0 := by
  rw [List.count_eq_zero]
  intro hm
  obtain ⟨k, hk, e⟩ := List.mem_iff_getElem.mp hm
  exact h k (by rw [List.getElem?_eq_getElem hk, e])
theorem chain_count (s : List Nat) (c : Nat) : ∀ (cuts : List Nat) (a f : Nat), StrLaws.ChainG ⟨s.toArray⟩ ⟨#[c]⟩ (⟨s.toArray⟩ : Str).length a cuts f → (∀ k, f ≤ k → ¬ StrLaws.At ⟨s.toArray⟩ ⟨#[c]⟩ (⟨s.toArray⟩ : Str).length k) → cuts.length = (s.drop a).count c
  | [], a, f, h, hn => by
    have e : f = a := h
    subst e
    refine (count_none _ c fun k => ?_).symm
    rw [List.getElem?_drop]
    exact fun z => hn (f + k) (Nat.le_add_right _ _) ((at_one s c _).mpr z)
  | c0 :: r, a, f, h, hn => by
    obtain ⟨h1, h2, h3, h4⟩ := h
    have ih := chain_count s c r (c0 + 1) f h4 hn
    have e2 := (at_one s c c0).mp h2
    have hlt : c0 < s.length := (List.getElem?_eq_some_iff.mp e2).1
    have e3 : s.drop a = (s.drop a).take (c0 - a) ++ (c :: s.drop (c0 + 1)) := by
      have e4 : (s.drop a).drop (c0 - a) = c :: s.drop (c0 + 1) := by
        rw [List.drop_drop, show a + (c0 - a) = c0 by omega, List.drop_eq_getElem_cons hlt]
        congr 1
        exact (List.getElem?_eq_some_iff.mp e2).2
      rw [← e4, List.take_append_drop]
    have e5 : ((s.drop a).take (c0 - a)).count c = 0 := count_none _ c fun k => by
      by_cases hk : k < c0 - a
      · rw [List.getElem?_take_of_lt hk, List.getElem?_drop]
        exact fun z => h3 (a + k) (by omega) (by omega) ((at_one s c _).mpr z)
      · rw [List.getElem?_eq_none (by rw [List.length_take]; omega)]
        exact fun z => nomatch z
    rw [e3, List.count_append, e5, List.count_cons_self, ← ih, List.length_cons]
    omega
theorem count_is (s : List Nat) (c : Nat) : Txt.count ⟨s.toArray⟩ ⟨#[c]⟩ = (s.count c : Nat) := by
  unfold Txt.count
  obtain ⟨f, h1, h2⟩ := StrLaws.occ_tight ⟨s.toArray⟩ ⟨#[c]⟩ (by show 1 ≤ 1; exact Nat.le_refl 1)
  rw [chain_count s c _ 0 f h1 h2]
  rfl
def rfindF : List D → Option D
  | [.str s, .str [c]] => some (.int (rfindL s c))
  | _ => none
def countF : List D → Option D
  | [.str s, .str [c]] => some (.int (s.count c : Nat))
  | _ => none
theorem rfindF_str : ∀ ds d, rfindF ds = some d → ∃ s ds2, ds = .str s :: ds2 := fun ds d h => by
  unfold rfindF at h
  split at h
  · exact ⟨_, _, rfl⟩
  · cases h
theorem countF_str : ∀ ds d, countF ds = some d → ∃ s ds2, ds = .str s :: ds2 := fun ds d h => by
  unfold countF at h
  split at h
  · exact ⟨_, _, rfl⟩
  · cases h
theorem rfindF_ok : OkN C (fun vs H Q => ∃ v us, vs = v :: us ∧ (∃ a b, v = .str a ∧ us = [.str b] ∧ Q (.int (Txt.rfind a b)) H)) rfindF := fun vs ds d G H Q s t r e k => by
  unfold rfindF at e
  split at e
  · rename_i z c
    cases e
    obtain ⟨v, w, rfl, rv, rw'⟩ := repTs_two r
    cases rv
    cases rw'
    exact ⟨_, _, rfl, _, _, rfl, rfl, by rw [rfind_is]; exact res_flat s t k (.int _)⟩
  · cases e
theorem countF_ok : OkN C (fun vs H Q => ∃ v us, vs = v :: us ∧ (∃ a b, v = .str a ∧ us = [.str b] ∧ Q (.int (Txt.count a b)) H)) countF := fun vs ds d G H Q s t r e k => by
  unfold countF at e
  split at e
  · rename_i z c
    cases e
    obtain ⟨v, w, rfl, rv, rw'⟩ := repTs_two r
    cases rv
    cases rw'
    exact ⟨_, _, rfl, _, _, rfl, rfl, by rw [count_is]; exact res_flat s t k (.int _)⟩
  · cases e
/-! ### in -/
def D.flt : D → Bool
  | .non => true
  | .bl _ => true
  | .int _ => true
  | .str _ => true
  | _ => false
def memF (neg : Bool) : List D → Option D
  | [.str [c], .str s] => some (.bl (neg != s.contains c))
  | [x, .lst l] => if x.shp 16 = true ∧ (D.lst l).shp 16 = true then some (.bl (neg != l.any fun y => y.eqv x)) else none
  | [x, .tup l] => if x.flt = true ∧ l.all D.flt = true then some (.bl (neg != l.any fun y => y.eqv x)) else none
  | _ => none
theorem memF_two {n : Bool} : Two (memF n) := fun ds d h => by
  unfold memF at h
  split at h <;> first | rfl | cases h
theorem memF_boo {n : Bool} : Boo (memF n) := fun ds d h => by
  unfold memF at h
  split at h
  · cases h; exact ⟨_, rfl⟩
  · split at h
    · cases h; exact ⟨_, rfl⟩
    · cases h
  · split at h
    · cases h; exact ⟨_, rfl⟩
    · cases h
  · cases h
end
end Mi

/-! in; global numbers; a generator expression over a text's signs; a comprehension that is stored. -/
namespace Mi
open PySem PySem.Spec PyProof.Rows L2 GxR
section
variable {X : Cx} {C : Cfg} {F G0 G G' H H' : Hp} {pn : Option (Nat × Addr)} {σ : St} {e e' : Env'} {v : V} {d : D} {a b c o : Expr} {x y z : Ex} {xs : List Ex} {es : List Expr} {pos p p2 : Pos}
/-! ### in -/
theorem opImp {f : Value → Value → Sem Value} {r r' : R2} (h : OpR X f r) (k : ∀ x y H Q, r' x y H Q → r x y H Q) : OpR X f r' := fun pins s σ H x y v u Q I rx ry q => h pins s σ H x y v u Q I rx ry (k _ _ _ _ q)
def rMem (K : Frag) (neg : Bool) : R2 := fun x y H Q => (∃ (c : Nat) (z : Str), x = .str ⟨#[c]⟩ ∧ y = .str z ∧ Q (.bl (neg != decide (c ∈ z.cps.toList))) H) ∨ (∃ d ds, Dp K H x d ∧ Dp K H y (.list ds) ∧ SeqAt.shaped d = true ∧ SeqAt.shaped (.list ds) = true ∧ Q (.bl (neg != ds.any fun z => PyData.eqv z d)) H) ∨ rIn K neg x y H Q
theorem op_inA (hu : X.A.units + 65 < cLine) : OpR X (compareOp .In) (rMem X.K false) := opImp (op_in_sign.or ((op_inD hu).or op_in_seq)) fun _ _ _ _ h => by
  rcases h with ⟨c, z, h1, h2, q⟩ | ⟨d, ds, h1, h2, h3, h4, q⟩ | h
  · exact .inl ⟨c, z, h1, h2, by simpa using q⟩
  · exact .inr (.inl ⟨d, ds, h1, h2, h3, h4, by simpa using q⟩)
  · exact .inr (.inr h)
theorem op_notInA (hu : X.A.units + 65 < cLine) : OpR X (compareOp .NotIn) (rMem X.K true) := opImp (op_notIn_sign.or ((op_notInD hu).or op_notIn_seq)) fun _ _ _ _ h => by
  rcases h with ⟨c, z, h1, h2, q⟩ | ⟨d, ds, h1, h2, h3, h4, q⟩ | h
  · exact .inl ⟨c, z, h1, h2, by simpa using q⟩
  · exact .inr (.inl ⟨d, ds, h1, h2, h3, h4, by simpa using q⟩)
  · exact .inr (.inr h)
theorem any_py (x : D) : ∀ l : List D, (D.pyL l).any (fun z => PyData.eqv z x.py) = l.any fun y => y.eqv x
  | [] => by simp [D.pyL]
  | y :: l => by simp only [D.pyL, List.any_cons]; rw [eqv_py, any_py x l]
theorem flt_V {K : Frag} {G : Hp} {v : V} {d : D} (r : Rep K G v d) (h : d.flt = true) : flatV v = true := by
  cases r <;> first | rfl | cases h
theorem flt_eq {K : Frag} {G G' : Hp} {v w : V} {d e : D} (r : Rep K G v d) (h : d.flt = true) (r' : Rep K G' w e) (h' : e.flt = true) : eqV v w = d.eqv e := by
  cases r <;> cases r' <;> first | (cases h; done) | (cases h'; done) | (simp [D.eqv, eqV]; done) | (simp only [D.eqv, eqV]; rw [Bool.eq_iff_iff]; simp; done)
theorem flt_all {K : Frag} {G G' : Hp} {w : V} {e : D} (r' : Rep K G' w e) (h' : e.flt = true) : ∀ {vs : List V} {ds : List D}, RepL K G vs ds → ds.all D.flt = true → vs.all flatV = true ∧ inV w vs = ds.any fun y => y.eqv e
  | _, _, .nil, _ => ⟨rfl, rfl⟩
  | _, _, .cons a b, h => by
    rw [List.all_cons, Bool.and_eq_true] at h
    obtain ⟨h1, h2⟩ := flt_all r' h' b h.2
    refine ⟨by rw [List.all_cons, flt_V a h.1, h1]; rfl, ?_⟩
    unfold inV at h2 ⊢
    rw [List.any_cons, List.any_cons, h2, flt_eq a h.1 r' h']
theorem memF_inv {n : Bool} {ds : List D} {d : D} (h : memF n ds = some d) : (∃ c s, ds = [.str [c], .str s] ∧ d = .bl (n != s.contains c)) ∨ (∃ x l, ds = [x, .lst l] ∧ x.shp 16 = true ∧ (D.lst l).shp 16 = true ∧ d = .bl (n != l.any fun y => y.eqv x)) ∨
    (∃ x l, ds = [x, .tup l] ∧ x.flt = true ∧ l.all D.flt = true ∧ d = .bl (n != l.any fun y => y.eqv x)) := by
  unfold memF at h
  split at h
  · rename_i c s
    cases h
    exact .inl ⟨c, s, rfl, rfl⟩
  · rename_i x l
    split at h
    · rename_i hz
      cases h
      exact .inr (.inl ⟨x, l, rfl, hz.1, hz.2, rfl⟩)
    · cases h
  · rename_i x l
    split at h
    · rename_i hz
      cases h
      exact .inr (.inr ⟨x, l, rfl, hz.1, hz.2, rfl⟩)
    · cases h
  · cases h
theorem memF_ok {n : Bool} (hK : C.K = X.K) : Ok2 C (rMem X.K n) (memF n) := fun x y a b d G H Q s t r1 r2 e k => by
  rcases memF_inv e with ⟨c, z, hq, rfl⟩ | ⟨x', l, hq, h1, h2, rfl⟩ | ⟨x', l, hq, h1, h2, rfl⟩
  · cases hq
    cases r1
    cases r2
    refine .inl ⟨c, _, rfl, rfl, ?_⟩
    have e2 : decide (c ∈ (⟨z.toArray⟩ : Str).cps.toList) = z.contains c := by
      simp [List.contains_iff_mem]
    rw [e2]
    exact res_flat s t k (.bl _)
  · cases hq
    refine .inr (.inl ⟨a.py, D.pyL l, ?_, ?_, shp_shaped (by decide) h1, shp_shaped (by decide) h2, ?_⟩)
    · rw [← hK]; exact rep_dp 16 a x h1 (r1.all s)
    · rw [← hK]
      have := rep_dp 16 (.lst l) y h2 (r2.all s)
      simpa only [D.py] using this
    · rw [any_py]; exact res_flat s t k (.bl _)
  · cases hq
    cases r2 with
    | tup g q r =>
      rename_i ad ys
      have rx : Rep C.K H x a := r1.all s
      obtain ⟨k1, k2⟩ := flt_all rx h1 r h2
      refine .inr (.inr ⟨_, ys, rfl, .inr (SqT.of q), flt_V rx h1, k1, ?_⟩)
      rw [k2]
      have e3 : (if n = true then !(l.any fun y => y.eqv a) else l.any fun y => y.eqv a) = (n != l.any fun y => y.eqv a) := by cases n <;> simp
      rw [e3]
      exact res_flat s t k (.bl _)
/-! ### a global number -/
theorem ce_globI {nm : Str} {i : Int} (hg : Gl X nm) (hm : ∃ t, X.mg nm = some (.int i t)) (hd : (nm == ("__debug__" : Str)) = false := by decide) : PE X (.Name nm pos) (tE C (.cst (.int i))) := by
  obtain ⟨t, ht⟩ := hm
  exact ce_c (v := .int i) (pe_glob (v := .int i) hg ht ⟨t, rfl⟩ hd) fun _ => .int i
/-! ### all, any over a text's signs -/
/-- the element: x in 'k' -/
theorem elt_in {prog : Program} {w : World} {scope : Scope} {x k : Str} {j : Nat} {p1 p2 p3 : Pos} (hk : scope.kind = .function) (hl : scope.names.lookup x = some .local) (hd : (x == ("__debug__" : Str)) = false := by decide) :
    EltP prog w scope x (.Compare (.Name x p1) [.In] [.Constant (.str k) j p2] p3) (fun c => decide (c ∈ k.cps.toList)) := by
  intro cenv A' E' c t s₂ m₂ hs hn hm
  refine wpAny_Compare1 ?_
  refine wpAny_Name (wpAny_loadName_local (by rw [hs]; exact hk) (show cenv.scope.names.lookup x = some .local by rw [hs]; exact hl) hn hm ?_) hd
  refine Calls.Constant_str ?_
  refine PyProof.Rows.in_str ?_
  exact ⟨congrArg Value.bool (PySem.StrLaws.found_one k c), keeps_tok _ _⟩
def allF (pb : Nat → Bool) : List D → Option D
  | [.str s] => some (.bl (s.all pb))
  | _ => none
def anyF (pb : Nat → Bool) : List D → Option D
  | [.str s] => some (.bl (s.any pb))
  | _ => none
theorem allF_boo {pb : Nat → Bool} : Boo (allF pb) := fun ds d h => by
  unfold allF at h
  split at h <;> first | (cases h; exact ⟨_, rfl⟩) | cases h
theorem anyF_boo {pb : Nat → Bool} : Boo (anyF pb) := fun ds d h => by
  unfold anyF at h
  split at h <;> first | (cases h; exact ⟨_, rfl⟩) | cases h
theorem grow_tab {P : Addr} {G H1 H2 : Hp} (gh : Same G H1) (tb : ∀ P ∈ C.tt, TabG H1 P) (hP : P ∈ C.tt) (gP : G P = none) (ht : Tabbed P H1 H2) : Grow C G H1 G H2 := by
  refine ⟨Same.refl G, fun b u h => ?_, fun q hq hqt => ht.2 q (fun z => hqt (by rw [z]; exact hP)), fun _ _ => rfl, fun P' hP' => ?_⟩
  · rw [ht.2 b (fun z => by rw [z, gP] at h; cases h)]
    exact gh b u h
  · by_cases z : P' = P
    · rw [z]; exact ht.1
    · obtain ⟨ps, h1, h2⟩ := tb P' hP'
      exact ⟨ps, by rw [ht.2 P' z]; exact h1, h2⟩
theorem ce_allS {P : Addr} {pb : Nat → Bool} (h : ∀ {te : TE}, PE X a te → PE X o (tAllS P pb te)) (hP : P ∈ C.tt) (ha : PE X a (tE C x)) : PE X o (tE C (.op (allF pb) [x])) := (h ha).imp fun σ H Q q => by
  obtain ⟨F, G0, G, pn, e, r, e', R, he, k⟩ := q
  obtain ⟨rs, ds, d, q1, q2, q3, rfl⟩ := ev_op he
  obtain ⟨r1, e1, rs2, h1, h2, rfl⟩ := evs_cons q1
  obtain ⟨rfl, rfl⟩ := evs_nil h2
  obtain ⟨d1, ds1, g1, g2, rfl⟩ := gets_cons q2
  cases gets_nil g2
  unfold allF at q3
  split at q3
  · rename_i s hs
    cases hs
    cases q3
    refine ⟨F, G0, G, pn, e, r1, _, R, h1, fun v G1 H1 R1 s1 rv => ⟨⟨s.toArray⟩, get_str rv g1, (R1.tb P hP).1, fun H2 ht => ?_⟩⟩
    have := k (.bl (s.all pb)) G1 H2 (R1.grow (grow_tab R1.gh R1.tabs hP (R1.tb P hP).2.1 ht)) s1 (.bl _)
    simpa using this
  · cases q3
theorem ce_anyS {P : Addr} {pb : Nat → Bool} (h : ∀ {te : TE}, PE X a te → PE X o (tAnyS P pb te)) (hP : P ∈ C.tt) (ha : PE X a (tE C x)) : PE X o (tE C (.op (anyF pb) [x])) := (h ha).imp fun σ H Q q => by
  obtain ⟨F, G0, G, pn, e, r, e', R, he, k⟩ := q
  obtain ⟨rs, ds, d, q1, q2, q3, rfl⟩ := ev_op he
  obtain ⟨r1, e1, rs2, h1, h2, rfl⟩ := evs_cons q1
  obtain ⟨rfl, rfl⟩ := evs_nil h2
  obtain ⟨d1, ds1, g1, g2, rfl⟩ := gets_cons q2
  cases gets_nil g2
  unfold anyF at q3
  split at q3
  · rename_i s hs
    cases hs
    cases q3
    refine ⟨F, G0, G, pn, e, r1, _, R, h1, fun v G1 H1 R1 s1 rv => ⟨⟨s.toArray⟩, get_str rv g1, (R1.tb P hP).1, fun H2 ht => ?_⟩⟩
    have := k (.bl (s.any pb)) G1 H2 (R1.grow (grow_tab R1.gh R1.tabs hP (R1.tb P hP).2.1 ht)) s1 (.bl _)
    simpa using this
  · cases q3
/-! ### what is walked, whatever it is -/
theorem piOr {tg it : Expr} {t t' : TI} (h : PI X tg it t) (h' : PI X tg it t') : PI X tg it (fun σ H R => t σ H R ∨ t' σ H R) := ⟨fun pins s σ H R I q => q.elim (h.run pins s σ H R I) (h'.run pins s σ H R I)⟩
theorem ci_any {tg : Expr} (hK : C.K = X.K) (ha : PE X a (tE C x)) : PI X tg a (tI C itemsF [x]) := (piOr (ci_list hK ha) (piOr (ci_tup hK ha) (ci_str ha))).imp fun σ H R q => by
  obtain ⟨F, G0, G, pn, e, rs, e1, ds, e2, items, R', q1, q2, q3, k⟩ := q
  unfold itemsF at q3
  split at q3
  · exact .inl ⟨F, G0, G, pn, e, rs, e1, _, e2, items, R', q1, q2, q3, k⟩
  · exact .inr (.inl ⟨F, G0, G, pn, e, rs, e1, _, e2, items, R', q1, q2, q3, k⟩)
  · exact .inr (.inr ⟨F, G0, G, pn, e, rs, e1, _, e2, items, R', q1, q2, q3, k⟩)
  · cases q3
theorem blkE {N N2 : List Str} {sc sc2 scope : Scope} {own : List (Str × Nat)} (hN : N = N2) (hs : sc = sc2) (h : BlkOk N2 sc2 scope own) : BlkOk N sc scope own := by
  rw [hN, hs]; exact h
theorem hu65 {k : Nat} {A : Around} (hr : Room k A) : A.units + 65 < cLine := by have := hr.un; omega
theorem genS_of {env : Env} {scope : Scope} {x : Str} (h1 : scope.kind = .function) (h2 : scope.isCoroutine = false) (h3 : ∀ y ∈ scope.names, y.2 ≠ .cell) (h4 : scope.names.lookup (".0" : Str) = some NameKind.local) (h5 : scope.names.lookup x = some .local)
    (h6 : ∀ y ∈ scope.names, y.2 ≠ .free) : GenS env scope x := ⟨h1, h2, h3, h4, h5, fun y hy e => absurd e (h6 y hy)⟩
/-! ### a promise that promises nothing -/
theorem fnI_none {P : Program} {w : World} {K : Frag} {mg : Str → Option Value} {base : Heap} {f : Addr} {fd : FuncData} {ps : List Str} {k n : Nat} : FnOk P w K mg base CX0 k f fd ps (spI C n fun _ => none) := by
  refine ⟨fun vs H Q E h => ?_, fun A outer s H args us vs Q E _ _ _ _ h => ?_⟩
  · obtain ⟨_, _, _, _, _, _, _, z, _⟩ := h
    cases z
  · obtain ⟨_, _, _, _, _, _, _, z, _⟩ := h
    cases z
/-! ### a comprehension that is stored -/
variable {elt tgx iter : Expr} {ifs : List Expr} {scope : Scope} {own : List (Str × Nat)} {g : List D → Option (List D)} {tg : Tg} {cs : List Ex} {spos py : Pos} {i : Nat} {nm : Str}
theorem cs_setLcO (hc : X.calm = true) (hN : X.N.Nodup) (hy : X.N[i]? = some nm) (hyl : X.env.scope.names.lookup nm = some .local) (hsw : swapsWith (.ListComp elt [⟨tgx, iter, ifs, 0⟩] scope pos) (some (.Name nm py)) spos.line X.env = pure true) (hi : PI X tgx iter (tI C g xs)) (ok : BlkOk X.N X.env.scope scope own)
    (hg : ∀ (s : Shared) (H : Hp) (Cc : Addr) (cl : List (Str × Addr)) (fp : List Addr), PG (X.blk s H scope (compEnvC scope cl Cc X.env) fp) tgx (tG C tg)) (ht : ∀ (s : Shared) (H : Hp) (Cc : Addr) (cl : List (Str × Addr)) (fp : List Addr), PTs (X.blk s H scope (compEnvC scope cl Cc X.env) fp) ifs (tTs C cs))
    (he : ∀ (s : Shared) (H : Hp) (Cc : Addr) (cl : List (Str × Addr)) (fp : List Addr), PE (X.blk s H scope (compEnvC scope cl Cc X.env) fp) elt (tE C x)) (hsl : (tg.slots.all fun i => (own.map (·.2)).contains i) = true) (hs : ∀ x, foldedSetIterable iter X.env x = pure x := by intro _; rfl) :
    PS X (.Assign [.Name nm py] (.ListComp elt [⟨tgx, iter, ifs, 0⟩] scope pos) spos) (tS C (.setO i (.lc g xs (own.map (·.2)) tg cs x))) := (ps_setLc hc hN hy hyl hsw hi ok hg ht he hs).imp fun D σ H q => setO_of (fun _ _ _ h => tLc_of (fun i hi => by
  have := List.all_eq_true.mp hsl i hi
  exact List.contains_iff_mem.mp this) h) q
theorem cs_setLc (hc : X.calm = true) (hN : X.N.Nodup) (hy : X.N[i]? = some nm) (hyl : X.env.scope.names.lookup nm = some .local) (hsw : swapsWith (.ListComp elt [⟨tgx, iter, ifs, 0⟩] scope pos) (some (.Name nm py)) spos.line X.env = pure true) (hi : PI X tgx iter (tI C g xs)) (ok : BlkOk X.N X.env.scope scope own)
    (hg : ∀ (s : Shared) (H : Hp) (Cc : Addr) (cl : List (Str × Addr)) (fp : List Addr), PG (X.blk s H scope (compEnvC scope cl Cc X.env) fp) tgx (tG C tg)) (ht : ∀ (s : Shared) (H : Hp) (Cc : Addr) (cl : List (Str × Addr)) (fp : List Addr), PTs (X.blk s H scope (compEnvC scope cl Cc X.env) fp) ifs (tTs C cs))
    (he : ∀ (s : Shared) (H : Hp) (Cc : Addr) (cl : List (Str × Addr)) (fp : List Addr), PE (X.blk s H scope (compEnvC scope cl Cc X.env) fp) elt (tE C x)) (hsl : (tg.slots.all fun i => (own.map (·.2)).contains i) = true) (hs : ∀ x, foldedSetIterable iter X.env x = pure x := by intro _; rfl) :
    PS X (.Assign [.Name nm py] (.ListComp elt [⟨tgx, iter, ifs, 0⟩] scope pos) spos) (tS C (.set (.nm i) (.lc g xs (own.map (·.2)) tg cs x))) := (ps_setLc hc hN hy hyl hsw hi ok hg ht he hs).imp fun D σ H q => set_of (fun _ _ _ h => tLc_of (fun i hi => by
  have := List.all_eq_true.mp hsl i hi
  exact List.contains_iff_mem.mp this) (tF_tE h lc_pers)) gName_of q
end
end Mi

/-! The end. -/
namespace Mi
open PySem PySem.Spec PyProof.Rows L2 GxR
theorem tc_of {K : Frag} {nm qual : Str} {params : Arguments} {body : List Stmt} {scope : Scope} {fd' : FuncData} (F : FunD K nm qual params body scope [] [] (He.ga K nm) fd') :
    ∀ (oc : Value) (od : Option Addr) (osl : Array (Option Value)) (fd : FuncData), K.lookup (He.ga K nm) = some ⟨oc, od, .func fd, osl⟩ → fd.code = .ref (He.codeOf K (nm, none)) := by
  obtain ⟨oc0, od0, dV, kV, doc, pm, an, cdv, ct, osl0, rfl, lk, hcd, _, _⟩ := F.ex
  intro oc od osl fd h
  rw [lk] at h
  cases h
  obtain ⟨c, e⟩ := He.codeIn_ref hcd
  rw [He.codeOf_eq (p := (nm, none)) lk e]
  exact e
theorem law_at {l : PySem.W.OpenLaw} {w : World} {K : Frag} {h : Heap} {mg : Str → Option Value} {fa : List He.Fa} {fn : List He.DefD} {ts : List He.Tab} {tf : List He.Defn} {exb : Frag → Bool} {k : Nat} {x : Str} {f : Addr} {fd : FuncData} {φ : List D → Option D}
    {nm qual : Str} {params : Arguments} {body : List Stmt} {scope : Scope} {Fx : Heap → Prop}
    (c : He.SaysX fa fn ts tf exb w h K) (KX : K.In h) (F : FunD K nm qual params body scope [] [] f fd) (hb : ∀ (s : Shared) (u : Value), BindsTo s fd ⟨[u], []⟩ [(x, u)])
    (hZ : ∀ base : Heap, (∀ p ∈ tf.map (He.cT K), TabB base mg p.1 p.2) → Fx base)
    (hF : ∀ base : Heap, Fx base → FnOk l.prog w K mg base CX0 k f fd [x] (spI ⟨K, (tf.map (He.cT K)).map (·.2)⟩ 1 φ)) (hl : ∀ ns : List Int, ns.length ≤ 63 → (∀ z ∈ ns, Builtin.Int.intBits z ≤ 1048576) → φ [.scr ns] = some (.bl true)) :
    LamX.LawAtS l w K CX0 k 63 x mg f h := by
  have mem : ∀ p ∈ tf.map (He.cT K), ∃ q ∈ tf, He.cT K q = p := fun p hp => List.mem_map.mp hp
  refine ⟨fd, tf.map (He.cT K), spI ⟨K, (tf.map (He.cT K)).map (·.2)⟩ 1 φ, fun p hp => ?_, fun p hp => ?_, fun p hp => ?_, hb, ?_, fun base _ _ hT => hF base (hZ base fun p hp => ⟨(hT p hp).code, (hT p hp).bm, (hT p hp).gP⟩)⟩
  · obtain ⟨q, hq, rfl⟩ := mem p hp
    exact c.empty q hq
  · obtain ⟨q, hq, rfl⟩ := mem p hp
    exact c.out q hq
  · obtain ⟨q, hq, rfl⟩ := mem p hp
    exact PySem.W.codeHd_of_K KX (c.hd q hq)
  · intro H a ns hlen hbits hH hS
    have tab : ∀ P ∈ (tf.map (He.cT K)).map (·.2), H P = some (.tbl #[]) := fun P hP => by
      obtain ⟨p, hp, rfl⟩ := List.mem_map.mp hP
      exact hH p hp
    let G : Hp := fun b => if b ∈ (tf.map (He.cT K)).map (·.2) then none else H b
    have gn : ∀ {b : Addr}, b ∉ (tf.map (He.cT K)).map (·.2) → G b = H b := fun hb => if_neg hb
    have gt : ∀ {b : Addr}, b ∈ (tf.map (He.cT K)).map (·.2) → G b = none := fun hb => if_pos hb
    refine ⟨G, [.scr ns], .bl true, rfl, fun b o e => ?_, fun P hP => ⟨⟨#[], tab P hP, trivial⟩, gt hP⟩, .cons (.scr ?_) .nil, hl ns hlen hbits, fun v G' H' _ r => by cases r; rfl⟩
    · by_cases hb : b ∈ (tf.map (He.cT K)).map (·.2)
      · rw [gt hb] at e; cases e
      · rw [gn hb] at e; exact e
    · rcases hS with (hS | ⟨o, hS⟩) | hS
      · exact .inl (.inl (by rw [gn (fun z => by rw [tab a z] at hS; cases hS)]; exact hS))
      · exact .inl (.inr ⟨o, by rw [gn (fun z => by rw [tab a z] at hS; cases hS)]; exact hS⟩)
      · exact .inr hS
end Mi

/-! Plain laws of the loops. -/
namespace Mi
open PySem PySem.Spec PyProof.Rows L2 GxR
/-! ### loops -/
theorem forLoop_cons {f : D → Env' → Option Out} {d : D} {ds : List D} {e e1 : Env'} (h : f d e = some (.nx e1)) : forLoop f (d :: ds) e = forLoop f ds e1 := by
  rw [forLoop, h]
theorem forLoop_ret {f : D → Env' → Option Out} {d v : D} {ds : List D} {e e1 : Env'} (h : f d e = some (.rt v e1)) : forLoop f (d :: ds) e = some (.rt v e1) := by
  rw [forLoop, h]
/-- step by step, an invariant of what is left -/
theorem forLoop_inv {f : D → Env' → Option Out} (Inv : List D → Env' → Prop) (step : ∀ d ds e, Inv (d :: ds) e → ∃ e1, f d e = some (.nx e1) ∧ Inv ds e1) : ∀ (items : List D) (e : Env'), Inv items e → ∃ e1, forLoop f items e = some (.nx e1) ∧ Inv [] e1
  | [], e, h => ⟨e, rfl, h⟩
  | d :: ds, e, h => by
    obtain ⟨e1, h1, h2⟩ := step d ds e h
    obtain ⟨e2, h3, h4⟩ := forLoop_inv Inv step ds e1 h2
    exact ⟨e2, by rw [forLoop_cons h1]; exact h3, h4⟩
/-- an accumulator -/
theorem forLoop_fold {α β : Type} {f : D → Env' → Option Out} (E : α → Env') (I : β → D) (g : α → β → α) (step : ∀ a b, f (I b) (E a) = some (.nx (E (g a b)))) : ∀ (l : List β) (a : α), forLoop f (l.map I) (E a) = some (.nx (E (l.foldl g a)))
  | [], a => rfl
  | b :: l, a => by
    rw [List.map_cons, forLoop_cons (step a b), List.foldl_cons]
    exact forLoop_fold E I g step l (g a b)
/-- .. where the items keep a promise -/
theorem forLoop_foldP {α β : Type} {f : D → Env' → Option Out} (E : α → Env') (I : β → D) (g : α → β → α) (P : β → Prop) (S : α → Prop) (keep : ∀ a b, P b → S a → S (g a b)) (step : ∀ a b, P b → S a → f (I b) (E a) = some (.nx (E (g a b)))) :
    ∀ (l : List β) (a : α), (∀ b ∈ l, P b) → S a → forLoop f (l.map I) (E a) = some (.nx (E (l.foldl g a))) ∧ S (l.foldl g a)
  | [], a, _, h => ⟨rfl, h⟩
  | b :: l, a, hl, h => by
    have hb := hl b List.mem_cons_self
    rw [List.map_cons, forLoop_cons (step a b hb h), List.foldl_cons]
    exact forLoop_foldP E I g P S keep step l (g a b) (fun c hc => hl c (List.mem_cons_of_mem _ hc)) (keep a b hb h)
theorem lcLoop_inv {f : D → Env' → Option (List D × Env')} (Inv : Env' → Prop) (P : D → Prop) (step : ∀ d e, Inv e → ∃ y e1, f d e = some ([y], e1) ∧ Inv e1 ∧ P y) : ∀ (items : List D) (e : Env'), Inv e → ∃ ys e1, lcLoop f items e = some (ys, e1) ∧ Inv e1 ∧ ys.length = items.length ∧ ∀ y ∈ ys, P y
  | [], e, h => ⟨[], e, rfl, h, rfl, fun y hy => by cases hy⟩
  | d :: ds, e, h => by
    obtain ⟨y, e1, h1, h2, h3⟩ := step d e h
    obtain ⟨ys, e2, k1, k2, k3, k4⟩ := lcLoop_inv Inv P step ds e1 h2
    refine ⟨y :: ys, e2, ?_, k2, by rw [List.length_cons, List.length_cons, k3], fun z hz => ?_⟩
    · rw [lcLoop, h1]
      show (match lcLoop f ds e1 with
        | some (zs, e2) => some ([y] ++ zs, e2)
        | none => none) = _
      rw [k1] <;> rfl
    · rcases List.mem_cons.mp hz with rfl | hz
      · exact h3
      · exact k4 z hz
/-- each item's answer, the environment the same behind each turn -/
theorem lcLoop_map {β : Type} {f : D → Env' → Option (List D × Env')} (I : β → D) (g : β → List D) (e : Env') : ∀ (l : List β), (∀ b ∈ l, f (I b) e = some (g b, e)) → lcLoop f (l.map I) e = some (l.flatMap g, e)
  | [], _ => rfl
  | b :: l, h => by
    rw [List.map_cons, lcLoop, h b List.mem_cons_self]
    show (match lcLoop f (l.map I) e with
        | some (zs, e2) => some (g b ++ zs, e2)
        | none => none) = _
    rw [lcLoop_map I g e l fun c hc => h c (List.mem_cons_of_mem _ hc)] <;> rfl
theorem ev_lc_of {g : List D → Option (List D)} {as : List Ex} {vs : List Nat} {tg : Tg} {cs : List Ex} {elt : Ex} {e e1 e2 e7 : Env'} {rs : List Rv} {ds items ys : List D} (h1 : evs as e = some (rs, e1)) (h2 : settles e1 rs = some (ds, e2)) (h3 : g ds = some items) (h4 : softE e2 vs = true)
    (h5 : lcLoop (lcTurn tg vs (fun e => evt cs e) (fun e => ev elt e)) items (wipeE e2 vs) = some (ys, e7)) (h6 : ys.length ≤ 16000000) : ev (.lc g as vs tg cs elt) e = some (.pers (.lst ys), backE e2 e7 vs) := by
  unfold ev
  simp only [h1, h2, h3, h4, if_true, h5, h6]
theorem ex_for_of {g : List D → Option (List D)} {as : List Ex} {tg : Tg} {b : S} {e e1 e2 : Env'} {rs : List Rv} {ds items : List D} {o : Out} (h1 : evs as e = some (rs, e1)) (h2 : settles e1 rs = some (ds, e2)) (h3 : g ds = some items)
    (h4 : forLoop (fun d e => match tg.bind d e with
          | some e3 => ex b e3
          | none => none) items e2 = some o) : ex (.forr g as tg b) e = some o := by
  unfold ex
  simp only [h1, h2, h3]
  exact h4
/-! ### places -/
theorem atI_nat {α : Type} (l : List α) (i : Nat) : atI l (i : Int) = l[i]? := by
  unfold atI ixN
  rw [if_pos (Int.natCast_nonneg i)]
  by_cases h : i < l.length
  · rw [if_pos (Int.ofNat_lt.mpr h)]
    simp
  · rw [if_neg (by omega)]
    rw [List.getElem?_eq_none (by omega)]
    rfl
theorem atI0 {α : Type} (a : α) (l : List α) : atI (a :: l) 0 = some a := atI_nat (a :: l) 0
theorem atI1 {α : Type} (a b : α) (l : List α) : atI (a :: b :: l) 1 = some b := atI_nat (a :: b :: l) 1
theorem atI2 {α : Type} (a b c : α) (l : List α) : atI (a :: b :: c :: l) 2 = some c := atI_nat (a :: b :: c :: l) 2
theorem atI3 {α : Type} (a b c d : α) (l : List α) : atI (a :: b :: c :: d :: l) 3 = some d := atI_nat (a :: b :: c :: d :: l) 3
theorem atI_pos {α : Type} {l : List α} {i : Int} (h0 : 0 ≤ i) (h1 : i < l.length) : atI l i = some (l[i.toNat]'(by omega)) := by
  obtain ⟨n, rfl⟩ := Int.eq_ofNat_of_zero_le h0
  show atI l (n : Int) = _
  rw [atI_nat, List.getElem?_eq_getElem (by omega)]
  rfl
theorem cut_to {α : Type} (l : List α) (n : Nat) (h : n ≤ l.length) : cutL l none (some (n : Int)) = l.take n := by
  unfold cutL
  have e1 : HT.sIx l.length 0 none = 0 := rfl
  have e2 : HT.sIx l.length l.length (some (n : Int)) = n := by
    rw [HT.sIx_nat]; omega
  rw [e1, e2, List.drop_zero, Nat.sub_zero]
theorem cut_from {α : Type} (l : List α) (n : Nat) : cutL l (some (n : Int)) none = l.drop n := by
  unfold cutL
  have e1 : HT.sIx l.length l.length none = l.length := rfl
  have e2 : HT.sIx l.length 0 (some (n : Int)) = min n l.length := HT.sIx_nat _ _ _
  rw [e1, e2]
  by_cases h : n ≤ l.length
  · rw [Nat.min_eq_left h, List.take_of_length_le (by rw [List.length_drop]; exact Nat.le_refl _)]
  · rw [Nat.min_eq_right (by omega), List.drop_eq_nil_of_le (Nat.le_refl _), List.drop_eq_nil_of_le (by omega), List.take_nil]
end Mi

namespace Mi
open PySem PySem.Spec PyProof.Rows L2 GxR
def s__law_taken : S := .seq (.iff (.op gtF [.op ixF [.var 0, .cst (.int 3)], .cst (.int 0)]) (.seq (.set (.nm 2) (.op modF [.op intF [.op ixF [.var 0, .cst (.int 3)]], .var 1])) (
      .seq (.sub setL 0 (.cst (.int 3)) (.op fdivF [.op ixF [.var 0, .cst (.int 3)], .var 1])) (
      .ret (.var 2)))) (.skip)) (
    .seq (.sub setL 0 (.cst (.int 1)) (.op addF [.op ixF [.var 0, .cst (.int 1)], .cst (.int 1)])) (
    .seq (.iff (.op gtF [.op ixF [.var 0, .cst (.int 1)], .op lenF [.op ixF [.var 0, .cst (.int 0)]]]) (.seq (.sub setL 0 (.cst (.int 2)) (.op modF [.op intF [.op addF [.op mulF [.op ixF [.var 0, .cst (.int 2)], .cst (.int 48271)], .cst (.int 11)]], .cst (.int 2147483647)])) (
      .ret (.op modF [.op intF [.op fdivF [.op ixF [.var 0, .cst (.int 2)], .cst (.int 7)]], .var 1]))) (.skip)) (
    .seq (.set (.nm 3) (.op ixF [.op ixF [.var 0, .cst (.int 0)], .op subF [.op ixF [.var 0, .cst (.int 1)], .cst (.int 1)]])) (
    .seq (.sub setL 0 (.cst (.int 2)) (.op modF [.op intF [.op addF [.op addF [.op mulF [.op ixF [.var 0, .cst (.int 2)], .cst (.int 48271)], .var 3], .cst (.int 11)]], .cst (.int 2147483647)])) (
    .seq (.iff (.op geF [.var 3, .op powF [.cst (.int 10), .cst (.int 18)]]) (.sub setL 0 (.cst (.int 3)) (.op fdivF [.var 3, .var 1])) (.skip)) (
    .ret (.op modF [.op intF [.var 3], .var 1])))))))
def φ__law_taken : List D → Option (D × D) := runO 2 4 s__law_taken
def s__law_pick : S := .ret (.op ixF [.var 1, .callO φ__law_taken 0 [.op lenF [.var 1]]])
def φ__law_pick : List D → Option (D × D) := runO 2 2 s__law_pick
def lc__law_memory_1 : Ex := .lc range1F [.op addF [.cst (.int 1), .callO φ__law_taken 0 [.var 1]]] [2] (.nm 2) [] (.callO φ__law_pick 0 [.cst (.str [48, 49])])
def s__law_memory : S := .ret (.op joinF [.cst (.str []), lc__law_memory_1])
def φ__law_memory : List D → Option (D × D) := runO 2 3 s__law_memory
def fl__law_steps_1 : S := .forr range1F [.callO φ__law_taken 0 [.cst (.int 9)]] (.nm 3) (.seq (.set (.nm 2) (.op addF [.var 2, .op mulF [.var 1, .op addF [.cst (.int 1), .callO φ__law_pick 0 [.mk lstF [.cst (.int 0), .cst (.int 1), .callO φ__law_taken 0 [.cst (.int 9)]]]]]])) (
      .set (.nm 1) (.ite (.op eqF [.var 1, .cst (.str [117])]) (.cst (.str [100])) (.cst (.str [117])))))
def s__law_steps : S := .seq (.par 1 2 (.callO φ__law_pick 0 [.cst (.str [117, 100])]) (.cst (.str []))) (
    .seq (fl__law_steps_1) (
    .ret (.var 2)))
def φ__law_steps : List D → Option (D × D) := runO 1 4 s__law_steps
def lc__law_alike_1 (φ : List D → Option D) : Ex := .lc range1F [.op lenF [.var 1]] [2] (.nm 2) [.op notF [.call φ [.op ixF [.var 0, .var 2], .op ixF [.var 1, .var 2]]]] (.var 2)
def s__law_alike (φ : List D → Option D) : S := .seq (.iff (.op (isiF [.tuple, .list]) [.var 1]) (.seq (.iff (.or_ (.op notF [.op (isiF [.tuple, .list]) [.var 0]]) (.op neF [.op (isiF [.list]) [.var 0], .op (isiF [.list]) [.var 1]])) (.ret (.cst (.bl false))) (.skip)) (
      .seq (.iff (.op neF [.op lenF [.var 0], .op lenF [.var 1]]) (.ret (.cst (.bl false))) (.skip)) (
      .ret (.op eqF [(lc__law_alike_1 φ), .mk lstF []])))) (.skip)) (
    .seq (.iff (.or_ (.op isNF [.var 1, .cst .non]) (.op (isiF [.str]) [.var 1])) (.ret (.and_ (.op eqF [.var 0, .var 1]) (.op eqF [.op (isiF [.str]) [.var 0], .op (isiF [.str]) [.var 1]]))) (.skip)) (
    .ret (.and_ (.op (isiF [.int]) [.var 0]) (.and_ (.op eqF [.op (isiF [.bool]) [.var 0], .op (isiF [.bool]) [.var 1]]) (.op eqF [.var 0, .var 1])))))
def φ__law_alike : Nat → List D → Option D
  | 0 => fun _ => none
  | t + 1 => runI 2 3 (s__law_alike (φ__law_alike t))
def s_is_memory : S := .seq (.iff (.or_ (.op notF [.op (isiF [.str]) [.var 0]]) (.op notF [.chain leF leF (.cst (.int 1)) (.op lenF [.var 0]) (.cst (.int 9))])) (.ret (.cst (.bl false))) (.skip)) (
    .ret (.op (allF (fun c => decide (c ∈ ((⟨#[48, 49]⟩ : Str)).cps.toList))) [.var 0]))
def φ_is_memory : List D → Option D := runI 1 1 s_is_memory
def s_need_memory : S := .iff (.op notF [.call φ_is_memory [.var 0]]) (.never) (.skip)
def φ_need_memory : List D → Option D := runI 1 1 s_need_memory
def s_is_input : S := .seq (.iff (.or_ (.op notF [.op (isiF [.str]) [.var 0]]) (.op gtF [.op lenF [.var 0], .cst (.int 200)])) (.ret (.cst (.bl false))) (.skip)) (
    .ret (.op (allF (fun c => decide (c ∈ ((⟨#[117, 100]⟩ : Str)).cps.toList))) [.var 0]))
def φ_is_input : List D → Option D := runI 1 1 s_is_input
def s_need_input : S := .iff (.op notF [.call φ_is_input [.var 0]]) (.never) (.skip)
def φ_need_input : List D → Option D := runI 1 1 s_need_input
def s_step : S := .seq (.set (.tp [.nm 2, .nm 3]) (.ite (.op eqF [.var 1, .cst (.str [117])]) (.mk tupF1 [.cst (.str [48]), .cst (.str [49])]) (.mk tupF1 [.cst (.str [49]), .cst (.str [48])]))) (
    .seq (.set (.nm 4) (.op rfindF [.var 0, .var 2])) (
    .ret (.ite (.op ltF [.var 4, .cst (.int 0)]) (.var 0) (.op addF [.op addF [.op (sl2 slF) [.var 0, .var 4], .var 3], .op (sl1 slF) [.var 0, .op addF [.var 4, .cst (.int 1)]]]))))
def φ_step : List D → Option D := runI 2 5 s_step
def fl_behind_1 : S := .forr itemsF [.var 1] (.nm 2) (.set (.nm 0) (.call φ_step [.var 0, .var 2]))
def s_behind : S := .seq (fl_behind_1) (
    .ret (.var 0))
def φ_behind : List D → Option D := runI 2 3 s_behind
def s_after : S := .seq (.exp (.call φ_need_memory [.var 0])) (
    .seq (.exp (.call φ_need_input [.var 1])) (
    .ret (.call φ_behind [.var 0, .var 1])))
def φ_after : List D → Option D := runI 2 2 s_after
def fl__law_step_1 : S := .forr rangeDF [.op subF [.op lenF [.var 0], .cst (.int 1)], .op negF [.cst (.int 1)], .op negF [.cst (.int 1)]] (.nm 4) (.iff (.op eqF [.op ixF [.var 0, .var 4], .var 2]) (.ret (.op addF [.op addF [.op (sl2 slF) [.var 0, .var 4], .var 3], .op (sl1 slF) [.var 0, .op addF [.var 4, .cst (.int 1)]]])) (.skip))
def s__law_step : S := .seq (.set (.tp [.nm 2, .nm 3]) (.ite (.op eqF [.var 1, .cst (.str [117])]) (.mk tupF1 [.cst (.str [48]), .cst (.str [49])]) (.mk tupF1 [.cst (.str [49]), .cst (.str [48])]))) (
    .seq (fl__law_step_1) (
    .ret (.var 0)))
def φ__law_step : List D → Option D := runI 2 5 s__law_step
def fl__law_behind_1 : S := .forr itemsF [.var 1] (.nm 2) (.set (.nm 0) (.call φ__law_step [.var 0, .var 2]))
def s__law_behind : S := .seq (fl__law_behind_1) (
    .ret (.var 0))
def φ__law_behind : List D → Option D := runI 2 3 s__law_behind
def fl_heights_1 : S := .forr itemsF [.var 1] (.nm 3) (.seq (.set (.nm 0) (.call φ_step [.var 0, .var 3])) (
      .app 2 (.op countF [.var 0, .cst (.str [49])])))
def s_heights : S := .seq (.exp (.call φ_need_memory [.var 0])) (
    .seq (.exp (.call φ_need_input [.var 1])) (
    .seq (.setO 2 (.mk lstF [.op countF [.var 0, .cst (.str [49])]])) (
    .seq (fl_heights_1) (
    .ret (.op tupleF [.var 2])))))
def φ_heights : List D → Option D := runI 2 4 s_heights
def s_is_in : S := .ret (.and_ (.op (isiF [.int]) [.var 0]) (.and_ (.op notF [.op (isiF [.bool]) [.var 0]]) (.chain leF leF (.var 1) (.var 0) (.var 2))))
def φ_is_in : List D → Option D := runI 3 3 s_is_in
def s_need_span : S := .iff (.op notF [.call φ_is_in [.var 0, .cst (.int 1), .cst (.int 9)]]) (.never) (.skip)
def φ_need_span : List D → Option D := runI 1 1 s_need_span
def s_lasting : S := .seq (.exp (.call φ_need_span [.var 0])) (
    .seq (.exp (.call φ_need_input [.var 1])) (
    .ret (.call φ_behind [.op mulF [.cst (.str [48]), .var 0], .var 1])))
def φ_lasting : List D → Option D := runI 2 2 s_lasting
def fl_law_1 : S := .forr itemsF [.var 3] (.nm 7) (.seq (.set (.nm 5) (.ite (.op eqF [.var 7, .cst (.str [117])]) (.op min2F [.var 4, .op addF [.var 5, .cst (.int 1)]]) (.op max2F [.cst (.int 0), .op subF [.var 5, .cst (.int 1)]]))) (
      .app 6 (.var 5)))
def s_law : S := .seq (.setO 1 (.mk lstF [.var 0, .cst (.int 0), .cst (.int 5500), .cst (.int 0)])) (
    .seq (.par 2 3 (.callO φ__law_memory 1 [.cst (.int 9)]) (.callO φ__law_steps 1 [])) (
    .seq (.iff (.op notF [.call (φ__law_alike 6) [.call φ_after [.var 2, .var 3], .call φ__law_behind [.var 2, .var 3]]]) (.ret (.cst (.bl false))) (.skip)) (
    .seq (.par 4 5 (.op lenF [.var 2]) (.op countF [.var 2, .cst (.str [49])])) (
    .seq (.setO 6 (.mk lstF [.var 5])) (
    .seq (fl_law_1) (
    .seq (.iff (.op notF [.call (φ__law_alike 6) [.call φ_heights [.var 2, .var 3], .op tupleF [.var 6]]]) (.ret (.cst (.bl false))) (.skip)) (
    .seq (.iff (.op notF [.call (φ__law_alike 6) [.call φ_lasting [.var 4, .var 3], .call φ__law_behind [.op mulF [.cst (.str [48]), .var 4], .var 3]]]) (.ret (.cst (.bl false))) (.skip)) (
    .seq (.set (.nm 8) (.callO φ__law_taken 1 [.op addF [.op lenF [.var 3], .cst (.int 1)]])) (
    .seq (.iff (.op neF [.call φ_after [.call φ_after [.var 2, .op (sl2 slF) [.var 3, .var 8]], .op (sl1 slF) [.var 3, .var 8]], .call φ_after [.var 2, .var 3]]) (.ret (.cst (.bl false))) (.skip)) (
    .ret (.op eqF [.call φ_after [.var 2, .op mulF [.cst (.str [117]), .var 4]], .op mulF [.cst (.str [49]), .var 4]])))))))))))
def φ_law : List D → Option D := runI 1 9 s_law
end Mi

namespace Mi
open PySem PySem.Spec PyProof.Rows L2 GxR
/-! ### what a law draws -/
def RowOk (d : D) : Prop := ∃ (ns : List Int) (p s r : Int), d = .lst [.scr ns, .int p, .int s, .int r] ∧ 0 ≤ p
theorem fmod_nn (a : Int) {m : Int} (h : 1 ≤ m) : 0 ≤ a.fmod m := by
  rw [Int.fmod_eq_emod_of_nonneg a (by omega)]
  exact Int.emod_nonneg a (by omega)
theorem fmod_lt (a : Int) {m : Int} (h : 1 ≤ m) : a.fmod m < m := Int.fmod_lt_of_pos a (by omega)
theorem taken_spec {d : D} (h : RowOk d) {m : Int} (hm : 1 ≤ m) (hm2 : m < 1073741824) : ∃ (v : Int) (d' : D), φ__law_taken [d, .int m] = some (.int v, d') ∧ 0 ≤ v ∧ v < m ∧ RowOk d' := by
  obtain ⟨ns, p, s, r, rfl, hp⟩ := h
  have m0 : m ≠ 0 := by omega
  have ma : m.natAbs < 1073741824 := by omega
  by_cases h1 : 0 < r
  · refine ⟨r.fmod m, .lst [.scr ns, .int p, .int s, .int (r.fdiv m)], ?_, fmod_nn _ hm, fmod_lt _ hm, ns, p, s, _, rfl, hp⟩
    simp [φ__law_taken, runO, s__law_taken, initO, ex, ev, evs, gets, Rv.get, B.data, ixF, atI3, gtF, cmpF, truth, h1, intF, modF, m0, Rv.settle, Tg.bind, settles, ownAt, B.isOw, fdivF, ma, setL, ixN, outO]
  · by_cases h2 : (ns.length : Int) < p + 1
    · refine ⟨((s * 48271 + 11).fmod 2147483647 |>.fdiv 7).fmod m, .lst [.scr ns, .int (p + 1), .int ((s * 48271 + 11).fmod 2147483647), .int r], ?_, fmod_nn _ hm, fmod_lt _ hm, ns, _, _, _, rfl, by omega⟩
      simp [φ__law_taken, runO, s__law_taken, initO, ex, ev, evs, gets, Rv.get, B.data, ixF, atI0, atI1, atI2, atI3, gtF, cmpF, truth, h1, h2, intF, modF, mulF, addF, lenF, m0, Rv.settle, Tg.bind, settles, ownAt, B.isOw, fdivF, ma, setL, ixN, outO]
    · have e1 : atI ns p = some (ns[p.toNat]'(by omega)) := atI_pos hp (by omega)
      generalize (ns[p.toNat]'(by omega)) = c at e1
      by_cases h3 : (1000000000000000000 : Int) ≤ c
      · refine ⟨c.fmod m, .lst [.scr ns, .int (p + 1), .int ((s * 48271 + c + 11).fmod 2147483647), .int (c.fdiv m)], ?_, fmod_nn _ hm, fmod_lt _ hm, ns, _, _, _, rfl, by omega⟩
        simp [φ__law_taken, runO, s__law_taken, initO, ex, ev, evs, gets, Rv.get, B.data, ixF, atI0, atI1, atI2, atI3, gtF, geF, cmpF, truth, h1, h2, h3, e1, intF, modF, mulF, addF, subF, powF, lenF, m0, Rv.settle, Tg.bind, settles, ownAt, B.isOw, fdivF, ma, setL, ixN, outO]
      · refine ⟨c.fmod m, .lst [.scr ns, .int (p + 1), .int ((s * 48271 + c + 11).fmod 2147483647), .int r], ?_, fmod_nn _ hm, fmod_lt _ hm, ns, _, _, _, rfl, by omega⟩
        simp [φ__law_taken, runO, s__law_taken, initO, ex, ev, evs, gets, Rv.get, B.data, ixF, atI0, atI1, atI2, atI3, gtF, geF, cmpF, truth, h1, h2, h3, e1, intF, modF, mulF, addF, subF, powF, lenF, m0, Rv.settle, Tg.bind, settles, ownAt, B.isOw, fdivF, ma, setL, ixN, outO]
theorem rowOk0 (ns : List Int) (s : Int) : RowOk (.lst [.scr ns, .int 0, .int s, .int 0]) := ⟨ns, 0, s, 0, rfl, Int.le_refl 0⟩
theorem pick_str {d : D} (h : RowOk d) {s : List Nat} (hs : 1 ≤ s.length) (hs2 : s.length < 16000000) : ∃ (c : Nat) (d' : D), φ__law_pick [d, .str s] = some (.str [c], d') ∧ c ∈ s ∧ RowOk d' := by
  obtain ⟨v, d', h1, h2, h3, h4⟩ := taken_spec h (m := s.length) (by omega) (by omega)
  have e := atI_pos h2 h3
  refine ⟨s[v.toNat]'(by omega), d', ?_, List.getElem_mem _, h4⟩
  simp [φ__law_pick, runO, s__law_pick, initO, ex, ev, evs, gets, Rv.get, B.data, ixF, truth, Rv.settle, settles, ownAt, B.isOw, outO, lenF, h1, e, show s.length ≤ 16000000 by omega]
theorem pick_lst {d : D} (h : RowOk d) {s : List D} (hs : 1 ≤ s.length) (hs2 : s.length < 16000000) : ∃ (c : D) (d' : D), φ__law_pick [d, .lst s] = some (c, d') ∧ c ∈ s ∧ RowOk d' := by
  obtain ⟨v, d', h1, h2, h3, h4⟩ := taken_spec h (m := s.length) (by omega) (by omega)
  have e := atI_pos h2 h3
  refine ⟨s[v.toNat]'(by omega), d', ?_, List.getElem_mem _, h4⟩
  simp [φ__law_pick, runO, s__law_pick, initO, ex, ev, evs, gets, Rv.get, B.data, ixF, truth, Rv.settle, settles, ownAt, B.isOw, outO, lenF, h1, e]
theorem pick_tup {d : D} (h : RowOk d) {s : List D} (hs : 1 ≤ s.length) (hs2 : s.length < 16000000) : ∃ (c : D) (d' : D), φ__law_pick [d, .tup s] = some (c, d') ∧ c ∈ s ∧ RowOk d' := by
  obtain ⟨v, d', h1, h2, h3, h4⟩ := taken_spec h (m := s.length) (by omega) (by omega)
  have e := atI_pos h2 h3
  refine ⟨s[v.toNat]'(by omega), d', ?_, List.getElem_mem _, h4⟩
  simp [φ__law_pick, runO, s__law_pick, initO, ex, ev, evs, gets, Rv.get, B.data, ixF, truth, Rv.settle, settles, ownAt, B.isOw, outO, lenF, h1, e]
/-! ### memories, inputs -/
def Mem (m : List Nat) : Prop := ∀ c ∈ m, c = 48 ∨ c = 49
def Inp (s : List Nat) : Prop := ∀ c ∈ s, c = 117 ∨ c = 100
theorem rangeL_len (a : Int) (n : Nat) (c : Int) : (rangeL a n c).length = n := by
  unfold rangeL
  rw [List.length_map, List.length_range]
theorem join_single : ∀ l : List Nat, joinL' [] (l.map fun c => [c]) = l
  | [] => rfl
  | [c] => rfl
  | c :: b :: l => by
    have ih := join_single (b :: l)
    show [c] ++ ([] ++ joinL' [] ([b] :: l.map fun c => [c])) = _
    have e : ([b] :: l.map fun c => [c]) = (b :: l).map fun c => [c] := rfl
    rw [e, ih]
    rfl
theorem strs_single (ys : List D) (P : Nat → Prop) (h : ∀ y ∈ ys, ∃ c, y = .str [c] ∧ P c) : ∃ l : List Nat, ys = l.map (fun c => .str [c]) ∧ l.length = ys.length ∧ ∀ c ∈ l, P c := by
  induction ys with
  | nil => exact ⟨[], rfl, rfl, fun c hc => by cases hc⟩
  | cons y ys ih =>
    obtain ⟨c, rfl, hc⟩ := h y List.mem_cons_self
    obtain ⟨l, rfl, h2, h3⟩ := ih fun z hz => h z (List.mem_cons_of_mem _ hz)
    refine ⟨c :: l, rfl, by simp, fun b hb => ?_⟩
    rcases List.mem_cons.mp hb with rfl | hb
    · exact hc
    · exact h3 b hb
theorem strsOf_single : ∀ l : List Nat, strsOf (l.map fun c => D.str [c]) = some (l.map fun c => [c])
  | [] => rfl
  | c :: l => by
    rw [List.map_cons, strsOf, strsOf_single l]
    rfl
theorem lens_single : ∀ l : List Nat, ((l.map fun c => [c]).map List.length).sum = l.length
  | [] => rfl
  | c :: l => by
    rw [List.map_cons, List.map_cons, List.sum_cons, lens_single l, List.length_cons]
    exact Nat.add_comm _ _
theorem join_spec (l : List Nat) (h : l.length ≤ 16000000) : joinF [.str [], .lst (l.map fun c => .str [c])] = some (.str l) := by
  unfold joinF
  simp only [strsOf_single]
  rw [lens_single, if_pos (by simpa using h), join_single]
theorem memory_spec {d : D} (h : RowOk d) {k : Nat} (hk : 1 ≤ k) (hk2 : k < 1000000) : ∃ (m : List Nat) (d' : D), φ__law_memory [d, .int k] = some (.str m, d') ∧ 1 ≤ m.length ∧ m.length ≤ k ∧ Mem m ∧ RowOk d' := by
  obtain ⟨v, d1, h1, h2, h3, h4⟩ := taken_spec h (m := k) (by omega) (by omega)
  obtain ⟨ys, e7, l1, ⟨d2, rfl, l2⟩, l3, l4⟩ := lcLoop_inv (f := lcTurn (.nm 2) [2] (fun e => evt [] e) (fun e => ev (.callO φ__law_pick 0 [.cst (.str [48, 49])]) e)) (fun e => ∃ d, e = [.io d, .im (.int k), .un] ∧ RowOk d) (fun y => ∃ c, y = .str [c] ∧ (c = 48 ∨ c = 49))
    (fun d e he => by
      obtain ⟨d1, rfl, h⟩ := he
      obtain ⟨c, d2, p1, p2, p3⟩ := pick_str h (s := [48, 49]) (by simp) (by simp)
      refine ⟨.str [c], _, ?_, ⟨d2, rfl, p3⟩, c, rfl, by simpa using p2⟩
      simp [lcTurn, wipeE, p1, ex, ev, evs, evt, gets, settles, Rv.get, Rv.settle, B.data, B.isOw, ownAt, lstAt, truth, Tg.bind, Tg.binds, runI, runO, initI, initO, outO]) (rangeL 0 (1 + v).toNat 1) [.io d1, .im (.int k), .un] ⟨d1, rfl, h4⟩
  rw [rangeL_len] at l3
  obtain ⟨m, rfl, m2, m3⟩ := strs_single ys _ l4
  have hz : m.length ≤ 16000000 := by omega
  have hl : ev lc__law_memory_1 [.io d, .im (.int k), .un] = some (.pers (.lst (m.map fun c => .str [c])), [.io d2, .im (.int k), .un]) := by
    refine ev_lc_of (ds := [.int (1 + v)]) (e1 := [.io d1, .im (.int k), .un]) (e2 := [.io d1, .im (.int k), .un]) (e7 := [.io d2, .im (.int k), .un]) (rs := [.pers (.int (1 + v))]) ?_ ?_ ?_ ?_ l1 (by simpa using hz)
    · simp [h1, addF, ex, ev, evs, evt, gets, settles, Rv.get, Rv.settle, B.data, B.isOw, ownAt, lstAt, truth, Tg.bind, Tg.binds, runI, runO, initI, initO, outO]
    · simp [ex, ev, evs, evt, gets, settles, Rv.get, Rv.settle, B.data, B.isOw, ownAt, lstAt, truth, Tg.bind, Tg.binds, runI, runO, initI, initO, outO]
    · unfold range1F
      simp only
      rw [if_pos (by omega)]
    · simp [softE, B.isOw]
  refine ⟨m, d2, ?_, by omega, by omega, m3, l2⟩
  simp [φ__law_memory, s__law_memory, hl, join_spec m hz, ex, ev, evs, evt, gets, settles, Rv.get, Rv.settle, B.data, B.isOw, ownAt, lstAt, truth, Tg.bind, Tg.binds, runI, runO, initI, initO, outO]
theorem flat_rep (n c : Nat) : (List.replicate n [c]).flatten = List.replicate n c := by
  induction n with
  | zero => rfl
  | succ n ih => rw [List.replicate_succ, List.flatten_cons, ih, List.replicate_succ]; rfl
theorem rep_str (c : Nat) (n : Int) (h0 : 0 ≤ n) (h1 : n ≤ 1000000) : mulF [.str [c], .int n] = some (.str (List.replicate n.toNat c)) := by
  unfold mulF
  simp only
  rw [if_pos ⟨by omega, by omega, by simp; omega⟩, flat_rep]
theorem steps_spec {d : D} (h : RowOk d) : ∃ (s : List Nat) (d' : D), φ__law_steps [d] = some (.str s, d') ∧ s.length ≤ 72 ∧ Inp s ∧ RowOk d' := by
  obtain ⟨c, d1, p1, p2, p3⟩ := pick_str h (s := [117, 100]) (by simp) (by simp)
  obtain ⟨v, d2, h1, h2, h3, h4⟩ := taken_spec p3 (m := 9) (by omega) (by omega)
  obtain ⟨e5, l1, c5, s5, d5, b5, rfl, l2, l3, l4, l5⟩ := forLoop_inv (f := fun d e => match (Tg.nm 3).bind d e with
      | some e3 => ex (.seq (.set (.nm 2) (.op addF [.var 2, .op mulF [.var 1, .op addF [.cst (.int 1), .callO φ__law_pick 0 [.mk lstF [.cst (.int 0), .cst (.int 1), .callO φ__law_taken 0 [.cst (.int 9)]]]]]])) (
      .set (.nm 1) (.ite (.op eqF [.var 1, .cst (.str [117])]) (.cst (.str [100])) (.cst (.str [117]))))) e3
      | none => none) (fun ds e => ∃ (c : Nat) (s : List Nat) (d : D) (b : B), e = [.io d, .im (.str [c]), .im (.str s), b] ∧ (c = 117 ∨ c = 100) ∧ s.length + 9 * ds.length ≤ 72 ∧ Inp s ∧ RowOk d ∧ ∀ d, b ≠ .io d)
    (fun x ds e he => by
      obtain ⟨c, s, d, b, rfl, hc, hs, hi, hr, hb⟩ := he
      obtain ⟨v, d2, h1, h2, h3, h4⟩ := taken_spec hr (m := 9) (by omega) (by omega)
      obtain ⟨y, d3, p1, p2, p3⟩ := pick_lst h4 (s := [.int 0, .int 1, .int v]) (by simp) (by simp)
      obtain ⟨n, rfl, n1, n2⟩ : ∃ n : Int, y = .int n ∧ 0 ≤ n ∧ n < 9 := by
        simp only [List.mem_cons, List.not_mem_nil, or_false] at p2
        rcases p2 with rfl | rfl | rfl
        · exact ⟨0, rfl, by omega, by omega⟩
        · exact ⟨1, rfl, by omega, by omega⟩
        · exact ⟨v, rfl, h2, h3⟩
      have e1 := rep_str c (1 + n) (by omega) (by omega)
      have hl : (s ++ List.replicate (1 + n).toNat c).length + 9 * ds.length ≤ 72 := by
        rw [List.length_append, List.length_replicate]
        rw [List.length_cons] at hs
        omega
      have hi2 : Inp (s ++ List.replicate (1 + n).toNat c) := fun z hz => by
        rcases List.mem_append.mp hz with hz | hz
        · exact hi z hz
        · rw [(List.mem_replicate.mp hz).2]; exact hc
      have hlen : s.length + (1 + n).toNat ≤ 16000000 := by
        rw [List.length_append, List.length_replicate] at hl
        omega
      refine ⟨[.io d3, .im (.str [if c = 117 then 100 else 117]), .im (.str (s ++ List.replicate (1 + n).toNat c)), .im x], ?_, _, _, d3, _, rfl, ?_, hl, hi2, p3, fun d z => by cases z⟩
      · have hb' : (match b with
            | .io _ => none
            | _ => some ([B.io d, .im (.str [c]), .im (.str s), .im x] : Env')) = some [B.io d, .im (.str [c]), .im (.str s), .im x] := by
          cases b with
          | io d => exact absurd rfl (hb d)
          | _ => rfl
        have hbind : (Tg.nm 3).bind x [.io d, .im (.str [c]), .im (.str s), b] = some [.io d, .im (.str [c]), .im (.str s), .im x] := by
          unfold Tg.bind
          cases b with
          | io d => exact absurd rfl (hb d)
          | _ => rfl
        rw [hbind]
        rcases hc with rfl | rfl
        · simp [h1, p1, e1, addF, lstF, eqF, scl, D.eqv, hlen, ex, ev, evs, evt, gets, settles, Rv.get, Rv.settle, B.data, B.isOw, ownAt, lstAt, truth, Tg.bind, Tg.binds, runI, runO, initI, initO, outO]
        · simp [h1, p1, e1, addF, lstF, eqF, scl, D.eqv, hlen, ex, ev, evs, evt, gets, settles, Rv.get, Rv.settle, B.data, B.isOw, ownAt, lstAt, truth, Tg.bind, Tg.binds, runI, runO, initI, initO, outO]
      · by_cases z : c = 117
        · rw [if_pos z]; exact .inr rfl
        · rw [if_neg z]; exact .inl rfl) (rangeL 0 v.toNat 1) [.io d2, .im (.str [c]), .im (.str []), .un] ⟨c, [], d2, .un, rfl, by simpa using p2, by rw [rangeL_len]; simp; omega, fun z hz => (by cases hz), h4, fun d z => (by cases z)⟩
  have hl : ex fl__law_steps_1 [.io d1, .im (.str [c]), .im (.str []), .un] = some (.nx [.io d5, .im (.str [c5]), .im (.str s5), b5]) := by
    refine ex_for_of (ds := [.int v]) (e1 := [.io d2, .im (.str [c]), .im (.str []), .un]) (e2 := [.io d2, .im (.str [c]), .im (.str []), .un]) (rs := [.pers (.int v)]) ?_ ?_ ?_ l1
    · simp [h1, ex, ev, evs, evt, gets, settles, Rv.get, Rv.settle, B.data, B.isOw, ownAt, lstAt, truth, Tg.bind, Tg.binds, runI, runO, initI, initO, outO]
    · simp [ex, ev, evs, evt, gets, settles, Rv.get, Rv.settle, B.data, B.isOw, ownAt, lstAt, truth, Tg.bind, Tg.binds, runI, runO, initI, initO, outO]
    · unfold range1F
      simp only
      rw [if_pos (by omega)]
  refine ⟨s5, d5, ?_, by simpa using l3, l4, l5.1⟩
  simp [φ__law_steps, s__law_steps, p1, hl, ex, ev, evs, evt, gets, settles, Rv.get, Rv.settle, B.data, B.isOw, ownAt, lstAt, truth, Tg.bind, Tg.binds, runI, runO, initI, initO, outO]
/-! ### alike -/
mutual
/-- plain data, nested no deeper than t -/
def alk : Nat → D → Bool
  | _, .non => true
  | _, .bl _ => true
  | _, .int _ => true
  | _, .str _ => true
  | 0, .tup _ => false
  | t + 1, .tup l => decide (l.length ≤ 16000000) && alkL t l
  | 0, .lst _ => false
  | t + 1, .lst l => decide (l.length ≤ 16000000) && alkL t l
  | _, .dic _ _ => false
  | _, .scr _ => false
def alkL : Nat → List D → Bool
  | _, [] => true
  | t, d :: ds => alk t d && alkL t ds
end
theorem alkL_get : ∀ {t : Nat} {l : List D} {i : Nat} {d : D}, alkL t l = true → l[i]? = some d → alk t d = true
  | _, [], i, d, _, e => by simp at e
  | t, a :: l, 0, d, h, e => by
    unfold alkL at h
    simp only [List.getElem?_cons_zero, Option.some.injEq] at e
    subst e
    exact (Bool.and_eq_true_iff.mp h).1
  | t, a :: l, i + 1, d, h, e => by
    unfold alkL at h
    exact alkL_get (Bool.and_eq_true_iff.mp h).2 (by simpa using e)
theorem flatMap_nil {α β : Type} (l : List α) : l.flatMap (fun _ => ([] : List β)) = [] := by
  induction l with
  | nil => rfl
  | cons a l ih => rw [List.flatMap_cons, ih]; rfl
theorem alike_lc {φ : List D → Option D} {a b : D} {l : List D} (ha : ∀ i, ixF [a, .int i] = atI l i) (hb : ∀ i, ixF [b, .int i] = atI l i) (hl : lenF [b] = some (.int l.length)) (hz : l.length ≤ 16000000) (h : ∀ d ∈ l, φ [d, d] = some (.bl true)) :
    ev (lc__law_alike_1 φ) [.im a, .im b, .un] = some (.pers (.lst []), [.im a, .im b, .un]) := by
  have key := lcLoop_map (f := lcTurn (.nm 2) [2] (fun e => evt [.op notF [.call φ [.op ixF [.var 0, .var 2], .op ixF [.var 1, .var 2]]]] e) (fun e => ev (.var 2) e)) (fun i : Nat => D.int ((0 : Int) + (i : Int) * 1)) (fun _ => []) [.im a, .im b, .un] (List.range l.length) (fun i hi => by
    have hi' := List.mem_range.mp hi
    have e0 : ((0 : Int) + (i : Int) * 1) = (i : Int) := by omega
    have e1 : atI l (i : Int) = some l[i] := by rw [atI_nat, List.getElem?_eq_getElem hi']
    have e2 := h l[i] (List.getElem_mem hi')
    rw [e0]
    simp [lcTurn, wipeE, ha, hb, e1, e2, notF, ex, ev, evs, evt, gets, settles, Rv.get, Rv.settle, B.data, B.isOw, ownAt, lstAt, truth, Tg.bind, Tg.binds, runI, runO, initI, initO, outO])
  rw [flatMap_nil] at key
  refine (ev_lc_of (ds := [.int l.length]) (e1 := [.im a, .im b, .un]) (e2 := [.im a, .im b, .un]) (e7 := [.im a, .im b, .un]) (rs := [.pers (.int l.length)]) (ys := []) ?_ ?_ (items := rangeL 0 l.length 1) ?_ ?_ key (by simp))
  · simp [hl, ex, ev, evs, evt, gets, settles, Rv.get, Rv.settle, B.data, B.isOw, ownAt, lstAt, truth, Tg.bind, Tg.binds, runI, runO, initI, initO, outO]
  · simp [ex, ev, evs, evt, gets, settles, Rv.get, Rv.settle, B.data, B.isOw, ownAt, lstAt, truth, Tg.bind, Tg.binds, runI, runO, initI, initO, outO]
  · unfold range1F
    simp only
    rw [if_pos (by omega)]
    rfl
  · simp [softE, B.isOw]
theorem alike_seq {φ : List D → Option D} {l : List D} (hz : l.length ≤ 16000000) (h : ∀ d ∈ l, φ [d, d] = some (.bl true)) : runI 2 3 (s__law_alike φ) [.tup l, .tup l] = some (.bl true) ∧ runI 2 3 (s__law_alike φ) [.lst l, .lst l] = some (.bl true) := by
  have k1 := alike_lc (φ := φ) (a := .tup l) (b := .tup l) (fun _ => rfl) (fun _ => rfl) rfl hz h
  have k2 := alike_lc (φ := φ) (a := .lst l) (b := .lst l) (fun _ => rfl) (fun _ => rfl) rfl hz h
  unfold s__law_alike
  obtain ⟨L, hL⟩ : ∃ L, L = lc__law_alike_1 φ := ⟨_, rfl⟩
  rw [← hL] at k1 k2 ⊢
  constructor
  · simp [isiF, isT, notF, neF, scl, D.eqv, lenF, k1, lstF, eqF, D.shp, D.shpL, D.eqvL, ex, ev, evs, evt, gets, settles, Rv.get, Rv.settle, B.data, B.isOw, ownAt, lstAt, truth, Tg.bind, Tg.binds, runI, runO, initI, initO, outO]
  · simp [isiF, isT, notF, neF, scl, D.eqv, lenF, k2, lstF, eqF, D.shp, D.shpL, D.eqvL, ex, ev, evs, evt, gets, settles, Rv.get, Rv.settle, B.data, B.isOw, ownAt, lstAt, truth, Tg.bind, Tg.binds, runI, runO, initI, initO, outO]
theorem alike_same : ∀ (t : Nat) (d : D), alk t d = true → φ__law_alike (t + 1) [d, d] = some (.bl true)
  | t, .non, _ => by simp [φ__law_alike, s__law_alike, isiF, isT, isNF, notF, eqF, scl, D.eqv, ex, ev, evs, evt, gets, settles, Rv.get, Rv.settle, B.data, B.isOw, ownAt, lstAt, truth, Tg.bind, Tg.binds, runI, runO, initI, initO, outO]
  | t, .bl b, _ => by cases b <;> simp [φ__law_alike, s__law_alike, isiF, isT, isNF, notF, eqF, scl, D.eqv, ex, ev, evs, evt, gets, settles, Rv.get, Rv.settle, B.data, B.isOw, ownAt, lstAt, truth, Tg.bind, Tg.binds, runI, runO, initI, initO, outO]
  | t, .int i, _ => by simp [φ__law_alike, s__law_alike, isiF, isT, isNF, notF, eqF, scl, D.eqv, ex, ev, evs, evt, gets, settles, Rv.get, Rv.settle, B.data, B.isOw, ownAt, lstAt, truth, Tg.bind, Tg.binds, runI, runO, initI, initO, outO]
  | t, .str s, _ => by simp [φ__law_alike, s__law_alike, isiF, isT, isNF, notF, eqF, scl, D.eqv, ex, ev, evs, evt, gets, settles, Rv.get, Rv.settle, B.data, B.isOw, ownAt, lstAt, truth, Tg.bind, Tg.binds, runI, runO, initI, initO, outO]
  | 0, .tup l, h => by unfold alk at h; cases h
  | t + 1, .tup l, h => by
    unfold alk at h
    obtain ⟨h1, h2⟩ := Bool.and_eq_true_iff.mp h
    refine (alike_seq (of_decide_eq_true h1) fun d hd => ?_).1
    obtain ⟨i, hi, e⟩ := List.getElem_of_mem hd
    exact alike_same t d (alkL_get h2 (by rw [List.getElem?_eq_getElem hi, e]))
  | 0, .lst l, h => by unfold alk at h; cases h
  | t + 1, .lst l, h => by
    unfold alk at h
    obtain ⟨h1, h2⟩ := Bool.and_eq_true_iff.mp h
    refine (alike_seq (of_decide_eq_true h1) fun d hd => ?_).2
    obtain ⟨i, hi, e⟩ := List.getElem_of_mem hd
    exact alike_same t d (alkL_get h2 (by rw [List.getElem?_eq_getElem hi, e]))
  | _, .dic _ _, h => by unfold alk at h; cases h
  | _, .scr _, h => by unfold alk at h; cases h
/-! ### steps -/
/-- the last sign o, turned into n -/
def turnL (o n : Nat) : List Nat → Option (List Nat)
  | [] => none
  | a :: s => (match turnL o n s with
    | some s' => some (a :: s')
    | none => if a = o then some (n :: s) else none)
def stepL (m : List Nat) (c : Nat) : List Nat := if c = 117 then (turnL 48 49 m).getD m else (turnL 49 48 m).getD m
theorem turn_none {o n : Nat} : ∀ {s : List Nat}, (∀ j : Nat, s[j]? ≠ some o) → turnL o n s = none
  | [], _ => rfl
  | a :: s, h => by
    rw [turnL, turn_none fun j => by simpa using h (j + 1)]
    show (if a = o then some (n :: s) else none) = none
    rw [if_neg fun z => h 0 (by simp [z])]
theorem turn_at {o n : Nat} : ∀ {s : List Nat} {j : Nat}, s[j]? = some o → (∀ k, j < k → s[k]? ≠ some o) → turnL o n s = some (s.take j ++ n :: s.drop (j + 1))
  | [], j, h, _ => by simp at h
  | a :: s, 0, h, hk => by
    rw [turnL, turn_none fun j => by simpa using hk (j + 1) (by omega)]
    show (if a = o then some (n :: s) else none) = _
    rw [if_pos (by simpa using h)]
    rfl
  | a :: s, j + 1, h, hk => by
    rw [turnL, turn_at (s := s) (j := j) (by simpa using h) fun k hjk => by simpa using hk (k + 1) (by omega)]
    rfl
theorem turn_cases (o n : Nat) (s : List Nat) : (rfindL s o = -1 ∧ turnL o n s = none ∧ ∀ j : Nat, s[j]? ≠ some o) ∨ ∃ j : Nat, rfindL s o = (j : Int) ∧ j < s.length ∧ turnL o n s = some (s.take j ++ n :: s.drop (j + 1)) ∧ s[j]? = some o ∧ ∀ k, j < k → s[k]? ≠ some o := by
  unfold rfindL
  rcases rfindA_spec o s 0 (-1) with ⟨h1, h2⟩ | ⟨j, h1, h2, h3⟩
  · exact .inl ⟨h2, turn_none h1, h1⟩
  · exact .inr ⟨j, by rw [h3, Nat.zero_add], (List.getElem?_eq_some_iff.mp h1).1, turn_at h1 h2, h1, h2⟩
theorem turn_len {o n : Nat} : ∀ {s t : List Nat}, turnL o n s = some t → t.length = s.length
  | [], t, h => by cases h
  | a :: s, t, h => by
    rw [turnL] at h
    split at h
    · rename_i s' hs
      cases h
      rw [List.length_cons, List.length_cons, turn_len hs]
    · split at h
      · cases h; rfl
      · cases h
theorem turn_mem {o n : Nat} {P : Nat → Prop} (hn : P n) : ∀ {s t : List Nat}, turnL o n s = some t → (∀ c ∈ s, P c) → ∀ c ∈ t, P c
  | [], t, h, _ => by cases h
  | a :: s, t, h, hs => by
    rw [turnL] at h
    split at h
    · rename_i s' q
      cases h
      intro c hc
      rcases List.mem_cons.mp hc with rfl | hc
      · exact hs _ List.mem_cons_self
      · exact turn_mem hn q (fun d hd => hs d (List.mem_cons_of_mem _ hd)) c hc
    · split at h
      · cases h
        intro c hc
        rcases List.mem_cons.mp hc with rfl | hc
        · exact hn
        · exact hs c (List.mem_cons_of_mem _ hc)
      · cases h
theorem step_len (m : List Nat) (c : Nat) : (stepL m c).length = m.length := by
  unfold stepL
  split
  · cases h : turnL 48 49 m with
    | none => rfl
    | some t => exact turn_len h
  · cases h : turnL 49 48 m with
    | none => rfl
    | some t => exact turn_len h
theorem step_mem {m : List Nat} (hm : Mem m) (c : Nat) : Mem (stepL m c) := by
  unfold stepL
  split
  · cases h : turnL 48 49 m with
    | none => exact hm
    | some t => exact turn_mem (P := fun c => c = 48 ∨ c = 49) (.inr rfl) h hm
  · cases h : turnL 49 48 m with
    | none => exact hm
    | some t => exact turn_mem (P := fun c => c = 48 ∨ c = 49) (.inl rfl) h hm
theorem join_parts {s : List Nat} {j n : Nat} (hj : j < s.length) : s.take j ++ [n] ++ s.drop (j + 1) = s.take j ++ n :: s.drop (j + 1) := by
  rw [List.append_assoc]; rfl
theorem sl_to {s : List Nat} {j : Nat} (hj : j < s.length) (hz : s.length ≤ 1000000) : sl2 slF [.str s, .int (j : Int)] = some (.str (s.take j)) := by
  unfold sl2 slF
  simp only
  rw [if_pos (by omega), cut_to s j (by omega)]
theorem sl_from {s : List Nat} {j : Nat} (hz : s.length ≤ 1000000) : sl1 slF [.str s, .int (j : Int)] = some (.str (s.drop j)) := by
  unfold sl1 slF
  simp only
  rw [if_pos (by omega), cut_from s j]
theorem step_spec {m : List Nat} (hz : m.length ≤ 1000000) (c : Nat) : φ_step [.str m, .str [c]] = some (.str (stepL m c)) := by
  have fin : ∀ o n : Nat, (c = 117 → o = 48 ∧ n = 49) → (c ≠ 117 → o = 49 ∧ n = 48) → φ_step [.str m, .str [c]] = some (.str ((turnL o n m).getD m)) := fun o n h1 h2 => by
    have hb : ev (.ite (.op eqF [.var 1, .cst (.str [117])]) (.mk tupF1 [.cst (.str [48]), .cst (.str [49])]) (.mk tupF1 [.cst (.str [49]), .cst (.str [48])])) [.im (.str m), .im (.str [c]), .un, .un, .un] = some (.pers (.tup [.str [o], .str [n]]), [.im (.str m), .im (.str [c]), .un, .un, .un]) := by
      by_cases hc : c = 117
      · obtain ⟨rfl, rfl⟩ := h1 hc
        simp [eqF, scl, D.eqv, hc, tupF1, ex, ev, evs, evt, gets, settles, Rv.get, Rv.settle, B.data, B.isOw, ownAt, lstAt, truth, Tg.bind, Tg.binds, runI, runO, initI, initO, outO]
      · obtain ⟨rfl, rfl⟩ := h2 hc
        have hc2 : (c == 117) = false := by simpa using hc
        simp [eqF, scl, D.eqv, hc, hc2, tupF1, ex, ev, evs, evt, gets, settles, Rv.get, Rv.settle, B.data, B.isOw, ownAt, lstAt, truth, Tg.bind, Tg.binds, runI, runO, initI, initO, outO]
    generalize hx : (Ex.ite (.op eqF [.var 1, .cst (.str [117])]) (.mk tupF1 [.cst (.str [48]), .cst (.str [49])]) (.mk tupF1 [.cst (.str [49]), .cst (.str [48])])) = x at hb
    rcases turn_cases o n m with ⟨k1, k2, _⟩ | ⟨j, k1, k2, k3, _⟩
    · rw [k2]
      simp [φ_step, s_step, hx, hb, rfindF, k1, ltF, cmpF, ex, ev, evs, evt, gets, settles, Rv.get, Rv.settle, B.data, B.isOw, ownAt, lstAt, truth, Tg.bind, Tg.binds, runI, runO, initI, initO, outO]
    · rw [k3]
      have e1 := sl_to k2 hz
      have e2 := sl_from (s := m) (j := j + 1) hz
      have e3 : ((j : Int) + 1) = ((j + 1 : Nat) : Int) := rfl
      have e4 : ¬ ((j : Int) < 0) := by omega
      have e5 : (m.take j).length + 1 ≤ 16000000 := by rw [List.length_take]; omega
      have e6 : (m.take j ++ [n]).length + (m.drop (j + 1)).length ≤ 16000000 := by
        rw [List.length_append, List.length_take, List.length_drop]
        show min j m.length + 1 + _ ≤ _
        omega
      have e7 : addF [.str (m.take j), .str [n]] = some (.str (m.take j ++ [n])) := if_pos e5
      have e8 : addF [.str (m.take j ++ [n]), .str (m.drop (j + 1))] = some (.str (m.take j ++ n :: m.drop (j + 1))) := (if_pos e6).trans (by rw [join_parts k2])
      have e9 : addF [.int (j : Int), .int 1] = some (.int ((j + 1 : Nat) : Int)) := rfl
      have e10 : ltF [.int (j : Int), .int 0] = some (.bl false) := by
        show some (D.bl (decide ((j : Int) < 0))) = _
        rw [decide_eq_false e4]
      have e11 : rfindF [.str m, .str [o]] = some (.int (j : Int)) := by rw [← k1]; rfl
      show _ = some (D.str (m.take j ++ n :: m.drop (j + 1)))
      simp only [φ_step, s_step, hx, hb, e11, e10, e9, e8, e7, e2, e1, ex, ev, evs, evt, gets, settles, Rv.get, Rv.settle, B.data, B.isOw, ownAt, lstAt, truth, Tg.bind, Tg.binds, runI, runO, initI, initO, outO, List.length_cons, List.length_nil, List.map_cons, List.map_nil, List.cons_append, List.nil_append, List.replicate, Nat.reduceAdd, Nat.reduceSub, List.getElem?_cons_succ, List.getElem?_cons_zero, List.set_cons_succ, List.set_cons_zero, if_true]
  unfold stepL
  by_cases hc : c = 117
  · rw [if_pos hc]; exact fin 48 49 (fun _ => ⟨rfl, rfl⟩) fun z => absurd hc z
  · rw [if_neg hc]; exact fin 49 48 (fun z => absurd z hc) fun _ => ⟨rfl, rfl⟩
/-! ### inputs -/
/-- a loop's name that holds a sign, or nothing yet -/
def lv : Option Nat → B
  | none => .un
  | some c => .im (.str [c])
theorem lv_io (o : Option Nat) (d : D) : lv o ≠ .io d := by cases o <;> exact fun z => by cases z
def behL (m s : List Nat) : List Nat := s.foldl stepL m
theorem beh_len : ∀ (s m : List Nat), (behL m s).length = m.length
  | [], m => rfl
  | c :: s, m => (beh_len s (stepL m c)).trans (step_len m c)
theorem beh_mem : ∀ (s : List Nat) {m : List Nat}, Mem m → Mem (behL m s)
  | [], _, h => h
  | c :: s, m, h => beh_mem s (step_mem h c)
theorem bind_lv {i : Nat} {e : Env'} {d : D} {o : Option Nat} (h : e[i]? = some (lv o)) : (Tg.nm i).bind d e = some (e.set i (.im d)) := by
  unfold Tg.bind
  rw [h]
  cases o <;> rfl
theorem beh_loop {m s : List Nat} (hz : m.length ≤ 1000000) : ∃ o, ex fl_behind_1 [.im (.str m), .im (.str s), .un] = some (.nx [.im (.str (behL m s)), .im (.str s), lv o]) := by
  have key := forLoop_foldP (f := fun d e => match (Tg.nm 2).bind d e with
          | some e3 => ex (.set (.nm 0) (.call φ_step [.var 0, .var 2])) e3
          | none => none) (fun (a : List Nat × Option Nat) => [.im (.str a.1), .im (.str s), lv a.2]) (fun c => D.str [c]) (fun a c => (stepL a.1 c, some c)) (fun _ => True) (fun a => a.1.length ≤ 1000000)
    (fun a c _ h => by
      show (stepL a.1 c).length ≤ _
      rw [step_len]; exact h)
    (fun a c _ h => by
      rw [bind_lv (o := a.2) rfl]
      obtain ⟨T, hT⟩ : ∃ T, T = φ_step := ⟨_, rfl⟩
      have e1 := step_spec h c
      rw [← hT] at e1 ⊢
      simp [e1, lv, ex, ev, evs, evt, gets, settles, Rv.get, Rv.settle, B.data, B.isOw, ownAt, lstAt, truth, Tg.bind, Tg.binds, runI, runO, initI, initO, outO]) s (m, none) (fun _ _ => trivial) hz
  have fst : ∀ (l : List Nat) (a : List Nat × Option Nat), (l.foldl (fun a c => (stepL a.1 c, some c)) a).1 = behL a.1 l := by
    intro l
    induction l with
    | nil => intro a; rfl
    | cons c l ih => intro a; exact ih _
  refine ⟨(s.foldl (fun a c => (stepL a.1 c, some c)) ((m, none) : List Nat × Option Nat)).2, ?_⟩
  rw [show behL m s = (s.foldl (fun a c => (stepL a.1 c, some c)) ((m, none) : List Nat × Option Nat)).1 from (fst s (m, none)).symm]
  exact ex_for_of (ds := [.str s]) (e1 := [.im (.str m), .im (.str s), .un]) (e2 := [.im (.str m), .im (.str s), .un]) (rs := [.pers (.str s)]) (by simp [ex, ev, evs, evt, gets, settles, Rv.get, Rv.settle, B.data, B.isOw, ownAt, lstAt, truth, Tg.bind, Tg.binds, runI, runO, initI, initO, outO]) (by simp [ex, ev, evs, evt, gets, settles, Rv.get, Rv.settle, B.data, B.isOw, ownAt, lstAt, truth, Tg.bind, Tg.binds, runI, runO, initI, initO, outO]) rfl key.1
theorem behind_spec {m s : List Nat} (hz : m.length ≤ 1000000) : φ_behind [.str m, .str s] = some (.str (behL m s)) := by
  obtain ⟨o, h⟩ := beh_loop (s := s) hz
  unfold φ_behind s_behind
  obtain ⟨L, hL⟩ : ∃ L, L = fl_behind_1 := ⟨_, rfl⟩
  rw [← hL] at h ⊢
  simp [h, ex, ev, evs, evt, gets, settles, Rv.get, Rv.settle, B.data, B.isOw, ownAt, lstAt, truth, Tg.bind, Tg.binds, runI, runO, initI, initO, outO]
theorem is_memory_spec {m : List Nat} (hm : Mem m) (h1 : 1 ≤ m.length) (h2 : m.length ≤ 9) : φ_is_memory [.str m] = some (.bl true) := by
  have e1 : m.length ≤ 16000000 := by omega
  have e2 : (m.all fun c => decide (c ∈ ((⟨#[48, 49]⟩ : Str)).cps.toList)) = true := List.all_eq_true.mpr fun c hc => by
    rcases hm c hc with rfl | rfl <;> decide
  have e3 : allF (fun c => decide (c ∈ ((⟨#[48, 49]⟩ : Str)).cps.toList)) [.str m] = some (.bl true) := by
    unfold allF
    simp only [e2]
  unfold φ_is_memory s_is_memory
  obtain ⟨A, hA⟩ : ∃ A, A = allF (fun c => decide (c ∈ ((⟨#[48, 49]⟩ : Str)).cps.toList)) := ⟨_, rfl⟩
  rw [← hA] at e3 ⊢
  have k1 : (1 : Int) ≤ m.length := by omega
  have k2 : (m.length : Int) ≤ 9 := by omega
  simp [isiF, isT, notF, lenF, e1, leF, cmpF, k1, k2, e3, show m ≠ [] from fun z => by rw [z] at h1; simp at h1, show 1 ≤ m.length from h1, show m.length ≤ 9 from h2, ex, ev, evs, evt, gets, settles, Rv.get, Rv.settle, B.data, B.isOw, ownAt, lstAt, truth, Tg.bind, Tg.binds, runI, runO, initI, initO, outO]
theorem need_memory_spec {m : List Nat} (hm : Mem m) (h1 : 1 ≤ m.length) (h2 : m.length ≤ 9) : φ_need_memory [.str m] = some .non := by
  have e1 := is_memory_spec hm h1 h2
  unfold φ_need_memory s_need_memory
  obtain ⟨T, hT⟩ : ∃ T, T = φ_is_memory := ⟨_, rfl⟩
  rw [← hT] at e1 ⊢
  simp [e1, notF, ex, ev, evs, evt, gets, settles, Rv.get, Rv.settle, B.data, B.isOw, ownAt, lstAt, truth, Tg.bind, Tg.binds, runI, runO, initI, initO, outO]
theorem is_input_spec {s : List Nat} (hm : Inp s) (h2 : s.length ≤ 200) : φ_is_input [.str s] = some (.bl true) := by
  have e1 : s.length ≤ 16000000 := by omega
  have e2 : (s.all fun c => decide (c ∈ ((⟨#[117, 100]⟩ : Str)).cps.toList)) = true := List.all_eq_true.mpr fun c hc => by
    rcases hm c hc with rfl | rfl <;> decide
  have e3 : allF (fun c => decide (c ∈ ((⟨#[117, 100]⟩ : Str)).cps.toList)) [.str s] = some (.bl true) := by
    unfold allF
    simp only [e2]
  unfold φ_is_input s_is_input
  obtain ⟨A, hA⟩ : ∃ A, A = allF (fun c => decide (c ∈ ((⟨#[117, 100]⟩ : Str)).cps.toList)) := ⟨_, rfl⟩
  rw [← hA] at e3 ⊢
  have k2 : ¬ (200 : Int) < s.length := by omega
  simp [isiF, isT, notF, lenF, e1, gtF, cmpF, k2, e3, show ¬ 200 < s.length by omega, ex, ev, evs, evt, gets, settles, Rv.get, Rv.settle, B.data, B.isOw, ownAt, lstAt, truth, Tg.bind, Tg.binds, runI, runO, initI, initO, outO]
theorem need_input_spec {s : List Nat} (hm : Inp s) (h2 : s.length ≤ 200) : φ_need_input [.str s] = some .non := by
  have e1 := is_input_spec hm h2
  unfold φ_need_input s_need_input
  obtain ⟨T, hT⟩ : ∃ T, T = φ_is_input := ⟨_, rfl⟩
  rw [← hT] at e1 ⊢
  simp [e1, notF, ex, ev, evs, evt, gets, settles, Rv.get, Rv.settle, B.data, B.isOw, ownAt, lstAt, truth, Tg.bind, Tg.binds, runI, runO, initI, initO, outO]
theorem after_spec {m s : List Nat} (hm : Mem m) (h1 : 1 ≤ m.length) (h2 : m.length ≤ 9) (hs : Inp s) (h3 : s.length ≤ 200) : φ_after [.str m, .str s] = some (.str (behL m s)) := by
  have e1 := need_memory_spec hm h1 h2
  have e2 := need_input_spec hs h3
  have e3 := behind_spec (m := m) (s := s) (by omega)
  unfold φ_after s_after
  obtain ⟨T, hT⟩ : ∃ T, T = φ_need_memory := ⟨_, rfl⟩
  obtain ⟨U, hU⟩ : ∃ T, T = φ_need_input := ⟨_, rfl⟩
  obtain ⟨W, hW⟩ : ∃ T, T = φ_behind := ⟨_, rfl⟩
  rw [← hT] at e1 ⊢
  rw [← hU] at e2 ⊢
  rw [← hW] at e3 ⊢
  simp [e1, e2, e3, ex, ev, evs, evt, gets, settles, Rv.get, Rv.settle, B.data, B.isOw, ownAt, lstAt, truth, Tg.bind, Tg.binds, runI, runO, initI, initO, outO]
theorem is_in_spec {i a b : Int} (h1 : a ≤ i) (h2 : i ≤ b) : φ_is_in [.int i, .int a, .int b] = some (.bl true) := by
  unfold φ_is_in s_is_in
  simp [isiF, isT, notF, leF, cmpF, h1, h2, ex, ev, evs, evt, gets, settles, Rv.get, Rv.settle, B.data, B.isOw, ownAt, lstAt, truth, Tg.bind, Tg.binds, runI, runO, initI, initO, outO]
theorem need_span_spec {i : Int} (h1 : 1 ≤ i) (h2 : i ≤ 9) : φ_need_span [.int i] = some .non := by
  have e1 := is_in_spec h1 h2
  unfold φ_need_span s_need_span
  obtain ⟨T, hT⟩ : ∃ T, T = φ_is_in := ⟨_, rfl⟩
  rw [← hT] at e1 ⊢
  simp [e1, notF, ex, ev, evs, evt, gets, settles, Rv.get, Rv.settle, B.data, B.isOw, ownAt, lstAt, truth, Tg.bind, Tg.binds, runI, runO, initI, initO, outO]
theorem lasting_spec {n : Nat} {s : List Nat} (h1 : 1 ≤ n) (h2 : n ≤ 9) (hs : Inp s) (h3 : s.length ≤ 200) : φ_lasting [.int n, .str s] = some (.str (behL (List.replicate n 48) s)) := by
  have e1 := need_span_spec (i := n) (by omega) (by omega)
  have e2 := need_input_spec hs h3
  have e3 := behind_spec (m := List.replicate n 48) (s := s) (by rw [List.length_replicate]; omega)
  have e4 : mulF [.str [48], .int (n : Int)] = some (.str (List.replicate n 48)) := rep_str 48 n (by omega) (by omega)
  unfold φ_lasting s_lasting
  obtain ⟨T, hT⟩ : ∃ T, T = φ_need_span := ⟨_, rfl⟩
  obtain ⟨U, hU⟩ : ∃ T, T = φ_need_input := ⟨_, rfl⟩
  obtain ⟨W, hW⟩ : ∃ T, T = φ_behind := ⟨_, rfl⟩
  rw [← hT] at e1 ⊢
  rw [← hU] at e2 ⊢
  rw [← hW] at e3 ⊢
  simp [e1, e2, e3, e4, ex, ev, evs, evt, gets, settles, Rv.get, Rv.settle, B.data, B.isOw, ownAt, lstAt, truth, Tg.bind, Tg.binds, runI, runO, initI, initO, outO]
/-! ### the law's own steps -/
theorem rangeL_down (k : Nat) : rangeL (k : Int) (k + 1) (-1) = .int k :: rangeL ((k : Int) - 1) k (-1) := by
  unfold rangeL
  rw [List.range_succ_eq_map, List.map_cons, List.map_map]
  refine congr (congrArg List.cons ?_) ?_
  · exact congrArg D.int (show (k : Int) + ((0 : Nat) : Int) * -1 = k by omega)
  · apply List.map_congr_left
    intro i _
    show D.int _ = D.int _
    congr 1
    show (k : Int) + ((i + 1 : Nat) : Int) * -1 = (k : Int) - 1 + (i : Int) * -1
    omega
/-- a loop's name that holds a number, or nothing yet -/
def lw : Option Int → B
  | none => .un
  | some c => .im (.int c)
theorem bind_lw {i : Nat} {e : Env'} {d : D} {o : Option Int} (h : e[i]? = some (lw o)) : (Tg.nm i).bind d e = some (e.set i (.im d)) := by
  unfold Tg.bind
  rw [h]
  cases o <;> rfl
def lsBody : S := .iff (.op eqF [.op ixF [.var 0, .var 4], .var 2]) (.ret (.op addF [.op addF [.op (sl2 slF) [.var 0, .var 4], .var 3], .op (sl1 slF) [.var 0, .op addF [.var 4, .cst (.int 1)]]])) (.skip)
theorem ls_turn {m : List Nat} {o n c : Nat} (hz : m.length ≤ 1000000) {j : Nat} (hj : j < m.length) {b : B} :
    ex lsBody [.im (.str m), .im (.str [c]), .im (.str [o]), .im (.str [n]), .im (.int (j : Int))] = if m[j] = o then some (.rt (.str (m.take j ++ n :: m.drop (j + 1))) [.im (.str m), .im (.str [c]), .im (.str [o]), .im (.str [n]), .im (.int (j : Int))]) else some (.nx [.im (.str m), .im (.str [c]), .im (.str [o]), .im (.str [n]), .im (.int (j : Int))]) := by
  have e0 : ixF [.str m, .int (j : Int)] = some (.str [m[j]]) := by
    unfold ixF
    simp only
    rw [if_pos (by omega), atI_nat, List.getElem?_eq_getElem hj]
    rfl
  have e1 := sl_to hj hz
  have e2 := sl_from (s := m) (j := j + 1) hz
  have e5 : (m.take j).length + 1 ≤ 16000000 := by rw [List.length_take]; omega
  have e6 : (m.take j ++ [n]).length + (m.drop (j + 1)).length ≤ 16000000 := by
    rw [List.length_append, List.length_take, List.length_drop]
    show min j m.length + 1 + _ ≤ _
    omega
  have e7 : addF [.str (m.take j), .str [n]] = some (.str (m.take j ++ [n])) := if_pos e5
  have e8 : addF [.str (m.take j ++ [n]), .str (m.drop (j + 1))] = some (.str (m.take j ++ n :: m.drop (j + 1))) := (if_pos e6).trans (by rw [join_parts hj])
  have e9 : addF [.int (j : Int), .int 1] = some (.int ((j + 1 : Nat) : Int)) := rfl
  have e10 : eqF [.str [m[j]], .str [o]] = some (.bl (decide (m[j] = o))) := by
    by_cases q : m[j] = o
    · simp [eqF, scl, D.eqv, q]
    · have q2 : (m[j] == o) = false := by simpa using q
      simp [eqF, scl, D.eqv, q, q2]
  unfold lsBody
  by_cases q : m[j] = o
  · rw [if_pos q]
    rw [decide_eq_true q] at e10
    simp only [e0, e10, e9, e8, e7, e2, e1, ex, ev, evs, evt, gets, settles, Rv.get, Rv.settle, B.data, B.isOw, ownAt, lstAt, truth, Tg.bind, Tg.binds, runI, runO, initI, initO, outO, List.getElem?_cons_succ, List.getElem?_cons_zero]
  · rw [if_neg q]
    rw [decide_eq_false q] at e10
    simp only [e0, e10, ex, ev, evs, evt, gets, settles, Rv.get, Rv.settle, B.data, B.isOw, ownAt, lstAt, truth, Tg.bind, Tg.binds, runI, runO, initI, initO, outO, List.getElem?_cons_succ, List.getElem?_cons_zero]
theorem ls_loop {m : List Nat} {o n c : Nat} (hz : m.length ≤ 1000000) : ∀ (k : Nat) (b : Option Int), k ≤ m.length → (∀ i, k ≤ i → m[i]? ≠ some o) →
    (turnL o n m = none ∧ ∃ b', forLoop (fun d e => match (Tg.nm 4).bind d e with
          | some e3 => ex lsBody e3
          | none => none) (rangeL ((k : Int) - 1) k (-1)) [.im (.str m), .im (.str [c]), .im (.str [o]), .im (.str [n]), lw b] = some (.nx [.im (.str m), .im (.str [c]), .im (.str [o]), .im (.str [n]), lw b'])) ∨
    ∃ t, turnL o n m = some t ∧ ∃ e', forLoop (fun d e => match (Tg.nm 4).bind d e with
          | some e3 => ex lsBody e3
          | none => none) (rangeL ((k : Int) - 1) k (-1)) [.im (.str m), .im (.str [c]), .im (.str [o]), .im (.str [n]), lw b] = some (.rt (.str t) e')
  | 0, b, _, h => .inl ⟨turn_none fun j => h j (Nat.zero_le j), b, rfl⟩
  | k + 1, b, hk, h => by
    have e0 : (((k + 1 : Nat) : Int) - 1) = (k : Int) := by omega
    rw [e0, rangeL_down]
    have hb : (Tg.nm 4).bind (.int (k : Int)) [.im (.str m), .im (.str [c]), .im (.str [o]), .im (.str [n]), lw b] = some [.im (.str m), .im (.str [c]), .im (.str [o]), .im (.str [n]), lw (some (k : Int))] := bind_lw rfl
    have ht := ls_turn (m := m) (o := o) (n := n) (c := c) hz (j := k) (by omega) (b := .un)
    by_cases q : m[k] = o
    · rw [if_pos q] at ht
      refine .inr ⟨_, turn_at (j := k) (by rw [List.getElem?_eq_getElem (by omega), q]) (fun i hi => h i (by omega)), [.im (.str m), .im (.str [c]), .im (.str [o]), .im (.str [n]), .im (.int (k : Int))], ?_⟩
      refine forLoop_ret (e1 := [.im (.str m), .im (.str [c]), .im (.str [o]), .im (.str [n]), .im (.int (k : Int))]) ?_
      rw [hb]
      exact ht
    · rw [if_neg q] at ht
      have h' : ∀ i, k ≤ i → m[i]? ≠ some o := fun i hi => by
        by_cases z : i = k
        · rw [z, List.getElem?_eq_getElem (by omega)]
          exact fun z => q (Option.some.inj z)
        · exact h i (by omega)
      have st : (fun d e => match (Tg.nm 4).bind d e with
          | some e3 => ex lsBody e3
          | none => none) (.int (k : Int)) [.im (.str m), .im (.str [c]), .im (.str [o]), .im (.str [n]), lw b] = some (.nx [.im (.str m), .im (.str [c]), .im (.str [o]), .im (.str [n]), lw (some (k : Int))]) := by
        show (match (Tg.nm 4).bind (.int (k : Int)) _ with
          | some e3 => ex lsBody e3
          | none => none) = _
        rw [hb]
        exact ht
      rw [forLoop_cons st]
      exact ls_loop hz k (some (k : Int)) (by omega) h'
theorem law_step_spec {m : List Nat} (hz : m.length ≤ 1000000) (c : Nat) : φ__law_step [.str m, .str [c]] = some (.str (stepL m c)) := by
  have fin : ∀ o n : Nat, (c = 117 → o = 48 ∧ n = 49) → (c ≠ 117 → o = 49 ∧ n = 48) → φ__law_step [.str m, .str [c]] = some (.str ((turnL o n m).getD m)) := fun o n h1 h2 => by
    have hb : ev (.ite (.op eqF [.var 1, .cst (.str [117])]) (.mk tupF1 [.cst (.str [48]), .cst (.str [49])]) (.mk tupF1 [.cst (.str [49]), .cst (.str [48])])) [.im (.str m), .im (.str [c]), .un, .un, .un] = some (.pers (.tup [.str [o], .str [n]]), [.im (.str m), .im (.str [c]), .un, .un, .un]) := by
      by_cases hc : c = 117
      · obtain ⟨rfl, rfl⟩ := h1 hc
        simp [eqF, scl, D.eqv, hc, tupF1, ex, ev, evs, evt, gets, settles, Rv.get, Rv.settle, B.data, B.isOw, ownAt, lstAt, truth, Tg.bind, Tg.binds, runI, runO, initI, initO, outO]
      · obtain ⟨rfl, rfl⟩ := h2 hc
        have hc2 : (c == 117) = false := by simpa using hc
        simp [eqF, scl, D.eqv, hc, hc2, tupF1, ex, ev, evs, evt, gets, settles, Rv.get, Rv.settle, B.data, B.isOw, ownAt, lstAt, truth, Tg.bind, Tg.binds, runI, runO, initI, initO, outO]
    have hfor : ∀ {out : Out}, forLoop (fun d e => match (Tg.nm 4).bind d e with
          | some e3 => ex lsBody e3
          | none => none) (rangeL ((m.length : Int) - 1) m.length (-1)) [.im (.str m), .im (.str [c]), .im (.str [o]), .im (.str [n]), lw none] = some out → ex fl__law_step_1 [.im (.str m), .im (.str [c]), .im (.str [o]), .im (.str [n]), .un] = some out := fun {out} h => by
      refine ex_for_of (ds := [.int ((m.length : Int) - 1), .int (-1), .int (-1)]) (e1 := [.im (.str m), .im (.str [c]), .im (.str [o]), .im (.str [n]), .un]) (e2 := [.im (.str m), .im (.str [c]), .im (.str [o]), .im (.str [n]), .un]) (rs := [.pers (.int ((m.length : Int) - 1)), .pers (.int (-1)), .pers (.int (-1))]) ?_ (by simp [ex, ev, evs, evt, gets, settles, Rv.get, Rv.settle, B.data, B.isOw, ownAt, lstAt, truth, Tg.bind, Tg.binds, runI, runO, initI, initO, outO]) ?_ h
      · simp [lenF, show m.length ≤ 16000000 by omega, subF, negF, ex, ev, evs, evt, gets, settles, Rv.get, Rv.settle, B.data, B.isOw, ownAt, lstAt, truth, Tg.bind, Tg.binds, runI, runO, initI, initO, outO]
      · unfold rangeDF
        simp only
        rw [if_pos ⟨trivial, ⟨by omega, by omega⟩, by omega, by omega⟩]
        rw [show ((m.length : Int) - 1 - -1).toNat = m.length by omega]
    unfold φ__law_step s__law_step
    obtain ⟨L, hL⟩ : ∃ L, L = fl__law_step_1 := ⟨_, rfl⟩
    rw [← hL] at hfor ⊢
    generalize hx : (Ex.ite (.op eqF [.var 1, .cst (.str [117])]) (.mk tupF1 [.cst (.str [48]), .cst (.str [49])]) (.mk tupF1 [.cst (.str [49]), .cst (.str [48])])) = x at hb
    rcases ls_loop (m := m) (o := o) (n := n) (c := c) hz m.length none (Nat.le_refl _) (fun i hi => by rw [List.getElem?_eq_none hi]; exact fun z => by cases z) with ⟨k1, b', k2⟩ | ⟨t, k1, e', k2⟩
    · have k3 := hfor k2
      rw [k1]
      have k4 : (lw b').isOw = false := by cases b' <;> rfl
      simp [hx, hb, k3, ex, ev, evs, evt, gets, settles, Rv.get, Rv.settle, B.data, B.isOw, ownAt, lstAt, truth, Tg.bind, Tg.binds, runI, runO, initI, initO, outO]
    · have k3 := hfor k2
      rw [k1]
      simp [hx, hb, k3, ex, ev, evs, evt, gets, settles, Rv.get, Rv.settle, B.data, B.isOw, ownAt, lstAt, truth, Tg.bind, Tg.binds, runI, runO, initI, initO, outO]
  unfold stepL
  by_cases hc : c = 117
  · rw [if_pos hc]; exact fin 48 49 (fun _ => ⟨rfl, rfl⟩) fun z => absurd hc z
  · rw [if_neg hc]; exact fin 49 48 (fun z => absurd z hc) fun _ => ⟨rfl, rfl⟩
theorem law_beh_loop {m s : List Nat} (hz : m.length ≤ 1000000) : ∃ o, ex fl__law_behind_1 [.im (.str m), .im (.str s), .un] = some (.nx [.im (.str (behL m s)), .im (.str s), lv o]) := by
  have key := forLoop_foldP (f := fun d e => match (Tg.nm 2).bind d e with
          | some e3 => ex (.set (.nm 0) (.call φ__law_step [.var 0, .var 2])) e3
          | none => none) (fun (a : List Nat × Option Nat) => [.im (.str a.1), .im (.str s), lv a.2]) (fun c => D.str [c]) (fun a c => (stepL a.1 c, some c)) (fun _ => True) (fun a => a.1.length ≤ 1000000)
    (fun a c _ h => by
      show (stepL a.1 c).length ≤ _
      rw [step_len]; exact h)
    (fun a c _ h => by
      rw [bind_lv (o := a.2) rfl]
      obtain ⟨T, hT⟩ : ∃ T, T = φ__law_step := ⟨_, rfl⟩
      have e1 := law_step_spec h c
      rw [← hT] at e1 ⊢
      simp [e1, lv, ex, ev, evs, evt, gets, settles, Rv.get, Rv.settle, B.data, B.isOw, ownAt, lstAt, truth, Tg.bind, Tg.binds, runI, runO, initI, initO, outO]) s (m, none) (fun _ _ => trivial) hz
  have fst : ∀ (l : List Nat) (a : List Nat × Option Nat), (l.foldl (fun a c => (stepL a.1 c, some c)) a).1 = behL a.1 l := by
    intro l
    induction l with
    | nil => intro a; rfl
    | cons c l ih => intro a; exact ih _
  refine ⟨(s.foldl (fun a c => (stepL a.1 c, some c)) ((m, none) : List Nat × Option Nat)).2, ?_⟩
  rw [show behL m s = (s.foldl (fun a c => (stepL a.1 c, some c)) ((m, none) : List Nat × Option Nat)).1 from (fst s (m, none)).symm]
  exact ex_for_of (ds := [.str s]) (e1 := [.im (.str m), .im (.str s), .un]) (e2 := [.im (.str m), .im (.str s), .un]) (rs := [.pers (.str s)]) (by simp [ex, ev, evs, evt, gets, settles, Rv.get, Rv.settle, B.data, B.isOw, ownAt, lstAt, truth, Tg.bind, Tg.binds, runI, runO, initI, initO, outO]) (by simp [ex, ev, evs, evt, gets, settles, Rv.get, Rv.settle, B.data, B.isOw, ownAt, lstAt, truth, Tg.bind, Tg.binds, runI, runO, initI, initO, outO]) rfl key.1
theorem law_behind_spec {m s : List Nat} (hz : m.length ≤ 1000000) : φ__law_behind [.str m, .str s] = some (.str (behL m s)) := by
  obtain ⟨o, h⟩ := law_beh_loop (s := s) hz
  unfold φ__law_behind s__law_behind
  obtain ⟨L, hL⟩ : ∃ L, L = fl__law_behind_1 := ⟨_, rfl⟩
  rw [← hL] at h ⊢
  simp [h, ex, ev, evs, evt, gets, settles, Rv.get, Rv.settle, B.data, B.isOw, ownAt, lstAt, truth, Tg.bind, Tg.binds, runI, runO, initI, initO, outO]
/-! ### heights -/
def htsL (m : List Nat) : List Nat → List Nat
  | [] => [m.count 49]
  | c :: s => m.count 49 :: htsL (stepL m c) s
theorem hts_snoc (f : List Nat → Nat) : True := trivial
/-- the counts behind each letter, one after another -/
def trail (m : List Nat) : List Nat → List Nat
  | [] => []
  | c :: s => (stepL m c).count 49 :: trail (stepL m c) s
theorem trail_len (s : List Nat) : ∀ m, (trail m s).length = s.length := by
  induction s with
  | nil => intro m; rfl
  | cons c s ih => intro m; exact congrArg Nat.succ (ih _)
def dI (n : Nat) : D := .int n
theorem hts_loop {s0 : List Nat} : ∀ (s m : List Nat) (l : List D) (o : Option Nat), m.length ≤ 1000000 → l.length + s.length ≤ 1000000 → ∃ o', forLoop (fun d e => match (Tg.nm 3).bind d e with
          | some e3 => ex (.seq (.set (.nm 0) (.call φ_step [.var 0, .var 3])) (
      .app 2 (.op countF [.var 0, .cst (.str [49])]))) e3
          | none => none) (s.map fun c => .str [c]) [.im (.str m), .im (.str s0), .ow (.lst l), lv o] = some (.nx [.im (.str (behL m s)), .im (.str s0), .ow (.lst (l ++ (trail m s).map dI)), lv o'])
  | [], m, l, o, _, _ => ⟨o, by rw [List.map_nil, forLoop]; simp [behL, trail]⟩
  | c :: s, m, l, o, h1, h2 => by
    rw [List.length_cons] at h2
    obtain ⟨o', ih⟩ := hts_loop (s0 := s0) s (stepL m c) (l ++ [dI ((stepL m c).count 49)]) (some c) (by rw [step_len]; exact h1) (by rw [List.length_append]; show l.length + 1 + _ ≤ _; omega)
    refine ⟨o', ?_⟩
    have e1 := step_spec h1 c
    have st : (fun d e => match (Tg.nm 3).bind d e with
          | some e3 => ex (.seq (.set (.nm 0) (.call φ_step [.var 0, .var 3])) (
      .app 2 (.op countF [.var 0, .cst (.str [49])]))) e3
          | none => none) (.str [c]) [.im (.str m), .im (.str s0), .ow (.lst l), lv o] = some (.nx [.im (.str (stepL m c)), .im (.str s0), .ow (.lst (l ++ [dI ((stepL m c).count 49)])), lv (some c)]) := by
      show (match (Tg.nm 3).bind (.str [c]) _ with
          | some e3 => ex _ e3
          | none => none) = _
      rw [bind_lv (o := o) rfl]
      obtain ⟨T, hT⟩ : ∃ T, T = φ_step := ⟨_, rfl⟩
      rw [← hT] at e1 ⊢
      have hl : l.length < 16000000 := by omega
      simp [e1, lv, countF, hl, dI, ex, ev, evs, evt, gets, settles, Rv.get, Rv.settle, B.data, B.isOw, ownAt, lstAt, truth, Tg.bind, Tg.binds, runI, runO, initI, initO, outO]
    rw [List.map_cons, forLoop_cons st, ih, List.append_assoc]
    rfl
theorem tuple_of (l : List D) (h : l.length ≤ 16000000) : tupleF [.lst l] = some (.tup l) := by
  unfold tupleF
  simp [h]
theorem heights_spec {m s : List Nat} (hm : Mem m) (h1 : 1 ≤ m.length) (h2 : m.length ≤ 9) (hs : Inp s) (h3 : s.length ≤ 200) : φ_heights [.str m, .str s] = some (.tup ((m.count 49 :: trail m s).map dI)) := by
  have e1 := need_memory_spec hm h1 h2
  have e2 := need_input_spec hs h3
  obtain ⟨o', hl⟩ := hts_loop (s0 := s) s m [dI (m.count 49)] none (by omega) (by show 1 + _ ≤ _; omega)
  have e3 : ex fl_heights_1 [.im (.str m), .im (.str s), .ow (.lst [dI (m.count 49)]), .un] = some (.nx [.im (.str (behL m s)), .im (.str s), .ow (.lst (dI (m.count 49) :: (trail m s).map dI)), lv o']) :=
    ex_for_of (ds := [.str s]) (e1 := [.im (.str m), .im (.str s), .ow (.lst [dI (m.count 49)]), .un]) (e2 := [.im (.str m), .im (.str s), .ow (.lst [dI (m.count 49)]), .un]) (rs := [.pers (.str s)]) (by simp [ex, ev, evs, evt, gets, settles, Rv.get, Rv.settle, B.data, B.isOw, ownAt, lstAt, truth, Tg.bind, Tg.binds, runI, runO, initI, initO, outO]) (by simp [ex, ev, evs, evt, gets, settles, Rv.get, Rv.settle, B.data, B.isOw, ownAt, lstAt, truth, Tg.bind, Tg.binds, runI, runO, initI, initO, outO]) rfl hl
  have e4 := tuple_of (dI (m.count 49) :: (trail m s).map dI) (by rw [List.length_cons, List.length_map, trail_len]; omega)
  have e5 : countF [.str m, .str [49]] = some (dI (m.count 49)) := rfl
  have e6 : lstF [dI (m.count 49)] = some (.lst [dI (m.count 49)]) := rfl
  unfold φ_heights s_heights
  obtain ⟨T, hT⟩ : ∃ T, T = φ_need_memory := ⟨_, rfl⟩
  obtain ⟨U, hU⟩ : ∃ T, T = φ_need_input := ⟨_, rfl⟩
  obtain ⟨L, hL⟩ : ∃ L, L = fl_heights_1 := ⟨_, rfl⟩
  obtain ⟨W, hW⟩ : ∃ L, L = tupleF := ⟨_, rfl⟩
  obtain ⟨V, hV⟩ : ∃ L, L = countF := ⟨_, rfl⟩
  obtain ⟨Y, hY⟩ : ∃ L, L = lstF := ⟨_, rfl⟩
  rw [← hT] at e1 ⊢
  rw [← hU] at e2 ⊢
  rw [← hL] at e3 ⊢
  rw [← hW] at e4 ⊢
  rw [← hV] at e5 ⊢
  rw [← hY] at e6 ⊢
  simp [e1, e2, e3, e4, e5, e6, ex, ev, evs, evt, gets, settles, Rv.get, Rv.settle, B.data, B.isOw, ownAt, lstAt, truth, Tg.bind, Tg.binds, runI, runO, initI, initO, outO]
/-! ### the law's heights -/
def hStep (n h c : Int) : Int := if c = 117 then (if h + 1 < n then h + 1 else n) else (if h - 1 > 0 then h - 1 else 0)
theorem count_turn {o n : Nat} (hon : o ≠ n) : ∀ {s t : List Nat}, turnL o n s = some t → t.count n = s.count n + 1 ∧ t.count o + 1 = s.count o
  | [], t, h => by cases h
  | a :: s, t, h => by
    rw [turnL] at h
    split at h
    · rename_i s' q
      cases h
      obtain ⟨h1, h2⟩ := count_turn hon q
      rw [List.count_cons, List.count_cons, List.count_cons, List.count_cons]
      omega
    · split at h
      · rename_i z
        cases h
        subst z
        rw [List.count_cons, List.count_cons, List.count_cons, List.count_cons]
        have : (a == n) = false := by simpa using hon
        have : (n == a) = false := by simpa using fun z => hon z.symm
        simp [*]
      · cases h
theorem count_stay {o n : Nat} : ∀ {s : List Nat}, turnL o n s = none → s.count o = 0
  | [], _ => rfl
  | a :: s, h => by
    rw [turnL] at h
    split at h
    · cases h
    · rename_i q
      split at h
      · cases h
      · rename_i z
        rw [List.count_cons, count_stay q]
        have : (a == o) = false := by simpa using z
        simp [this]
theorem mem_count : ∀ {m : List Nat}, Mem m → m.count 48 + m.count 49 = m.length
  | [], _ => rfl
  | a :: m, h => by
    have ih := mem_count (m := m) fun c hc => h c (List.mem_cons_of_mem _ hc)
    rw [List.count_cons, List.count_cons, List.length_cons]
    rcases h a List.mem_cons_self with rfl | rfl
    · simp; omega
    · simp; omega
theorem height_step {m : List Nat} (hm : Mem m) {c : Nat} (hc : c = 117 ∨ c = 100) : (((stepL m c).count 49 : Nat) : Int) = hStep m.length (m.count 49) c := by
  have h0 := mem_count hm
  unfold hStep stepL
  rcases hc with rfl | rfl
  · rw [if_pos rfl, if_pos (by rfl)]
    cases q : turnL 48 49 m with
    | none =>
      have := count_stay q
      show ((m.count 49 : Nat) : Int) = _
      rw [if_neg (by omega)]
      omega
    | some t =>
      obtain ⟨h1, h2⟩ := count_turn (by decide) q
      show ((t.count 49 : Nat) : Int) = _
      split <;> omega
  · rw [if_neg (by decide), if_neg (by decide)]
    cases q : turnL 49 48 m with
    | none =>
      have := count_stay q
      show ((m.count 49 : Nat) : Int) = _
      rw [if_neg (by omega)]
      omega
    | some t =>
      obtain ⟨h1, h2⟩ := count_turn (by decide) q
      show ((t.count 49 : Nat) : Int) = _
      split <;> omega
end Mi

namespace Mi
open PySem PySem.Spec PyProof.Rows L2 GxR
theorem sl_to' {s : List Nat} {j : Nat} (hj : j ≤ s.length) (hz : s.length ≤ 1000000) : sl2 slF [.str s, .int (j : Int)] = some (.str (s.take j)) := by
  unfold sl2 slF
  simp only
  rw [if_pos (by omega), cut_to s j hj]
theorem beh_append (m a b : List Nat) : behL (behL m a) b = behL m (a ++ b) := (List.foldl_append ..).symm
theorem all_ones : ∀ {m : List Nat}, Mem m → m.count 48 = 0 → m = List.replicate m.length 49
  | [], _, _ => rfl
  | a :: m, h, hc => by
    rw [List.count_cons] at hc
    rcases h a List.mem_cons_self with rfl | rfl
    · simp at hc
    · rw [List.length_cons, List.replicate_succ, ← all_ones (fun c hc => h c (List.mem_cons_of_mem _ hc)) (by omega)]
theorem ups : ∀ (k : Nat) {m : List Nat}, Mem m → m.count 48 ≤ k → (behL m (List.replicate k 117)).count 48 = 0
  | 0, m, _, h => Nat.le_zero.mp h
  | k + 1, m, hm, h => by
    rw [List.replicate_succ]
    refine ups k (step_mem hm 117) ?_
    unfold stepL
    rw [if_pos rfl]
    cases q : turnL 48 49 m with
    | none =>
      show m.count 48 ≤ k
      rw [count_stay q]
      exact Nat.zero_le k
    | some t =>
      obtain ⟨_, h2⟩ := count_turn (by decide) q
      show t.count 48 ≤ k
      omega
theorem ups_ones {m : List Nat} (hm : Mem m) : behL m (List.replicate m.length 117) = List.replicate m.length 49 := by
  have h := ups m.length hm (List.count_le_length)
  have := all_ones (beh_mem _ hm) h
  rw [beh_len] at this
  exact this
theorem due_loop {e0 e1 : B} {s0 m0 : List Nat} {n : Nat} : ∀ (s m : List Nat) (l : List D) (o : Option Nat), Mem m → Inp s → m.length = n → n ≤ 1000000 → l.length + s.length ≤ 1000000 → ∃ o' h', forLoop (fun d e => match (Tg.nm 7).bind d e with
          | some e3 => ex (.seq (.set (.nm 5) (.ite (.op eqF [.var 7, .cst (.str [117])]) (.op min2F [.var 4, .op addF [.var 5, .cst (.int 1)]]) (.op max2F [.cst (.int 0), .op subF [.var 5, .cst (.int 1)]]))) (
      .app 6 (.var 5))) e3
          | none => none) (s.map fun c => .str [c]) [e0, e1, .im (.str m0), .im (.str s0), .im (.int n), .im (dI (m.count 49)), .ow (.lst l), lv o, .un] = some (.nx [e0, e1, .im (.str m0), .im (.str s0), .im (.int n), .im h', .ow (.lst (l ++ (trail m s).map dI)), lv o', .un])
  | [], m, l, o, _, _, _, _, _ => ⟨o, _, by rw [List.map_nil, forLoop]; simp [trail]; rfl⟩
  | c :: s, m, l, o, hm, hi, hn, hz, h2 => by
    rw [List.length_cons] at h2
    have hc : c = 117 ∨ c = 100 := hi c List.mem_cons_self
    obtain ⟨o', h', ih⟩ := due_loop (e0 := e0) (e1 := e1) (s0 := s0) (m0 := m0) (n := n) s (stepL m c) (l ++ [dI ((stepL m c).count 49)]) (some c) (step_mem hm c) (fun d hd => hi d (List.mem_cons_of_mem _ hd)) (by rw [step_len]; exact hn) hz (by rw [List.length_append]; show l.length + 1 + _ ≤ _; omega)
    refine ⟨o', h', ?_⟩
    have e3 := height_step hm hc
    rw [hn] at e3
    have st : (fun d e => match (Tg.nm 7).bind d e with
          | some e3 => ex (.seq (.set (.nm 5) (.ite (.op eqF [.var 7, .cst (.str [117])]) (.op min2F [.var 4, .op addF [.var 5, .cst (.int 1)]]) (.op max2F [.cst (.int 0), .op subF [.var 5, .cst (.int 1)]]))) (
      .app 6 (.var 5))) e3
          | none => none) (.str [c]) [e0, e1, .im (.str m0), .im (.str s0), .im (.int n), .im (dI (m.count 49)), .ow (.lst l), lv o, .un] = some (.nx [e0, e1, .im (.str m0), .im (.str s0), .im (.int n), .im (dI ((stepL m c).count 49)), .ow (.lst (l ++ [dI ((stepL m c).count 49)])), lv (some c), .un]) := by
      show (match (Tg.nm 7).bind (.str [c]) _ with
          | some e3 => ex _ e3
          | none => none) = _
      rw [bind_lv (o := o) rfl]
      have hl : l.length < 16000000 := by omega
      have e4 : dI ((stepL m c).count 49) = .int (hStep n (m.count 49) c) := congrArg D.int e3
      rw [e4]
      unfold hStep
      rcases hc with rfl | rfl
      · simp [eqF, scl, D.eqv, min2F, addF, lv, hl, dI, ex, ev, evs, evt, gets, settles, Rv.get, Rv.settle, B.data, B.isOw, ownAt, lstAt, truth, Tg.bind, Tg.binds, runI, runO, initI, initO, outO]
      · simp [eqF, scl, D.eqv, max2F, subF, lv, hl, dI, ex, ev, evs, evt, gets, settles, Rv.get, Rv.settle, B.data, B.isOw, ownAt, lstAt, truth, Tg.bind, Tg.binds, runI, runO, initI, initO, outO]
    rw [List.map_cons, forLoop_cons st, ih, List.append_assoc]
    rfl
theorem law_true : ∀ ns : List Int, ns.length ≤ 63 → (∀ z ∈ ns, PySem.Builtin.Int.intBits z ≤ 1048576) → φ_law [.scr ns] = some (.bl true) := by
  intro ns _ _
  obtain ⟨m, d1, a1, m1, m2, m3, r1⟩ := memory_spec (rowOk0 ns 5500) (k := 9) (by omega) (by omega)
  obtain ⟨s, d2, a2, s1, s2, r2⟩ := steps_spec r1
  obtain ⟨v, d3, a3, v1, v2, r3⟩ := taken_spec r2 (m := (s.length : Int) + 1) (by omega) (by omega)
  obtain ⟨j, rfl⟩ := Int.eq_ofNat_of_zero_le v1
  have hj : j ≤ s.length := by omega
  have hs200 : s.length ≤ 200 := by omega
  have b1 := after_spec m3 m1 m2 s2 hs200
  have b2 := law_behind_spec (m := m) (s := s) (by omega)
  have b3 := alike_same 5 (.str (behL m s)) rfl
  obtain ⟨o', h', b4⟩ := due_loop (e0 := .im (.scr ns)) (e1 := .ow d2) (s0 := s) (m0 := m) (n := m.length) s m [dI (m.count 49)] none m3 s2 rfl (by omega) (by show 1 + _ ≤ _; omega)
  have b5 : ex fl_law_1 [.im (.scr ns), .ow d2, .im (.str m), .im (.str s), .im (.int m.length), .im (dI (m.count 49)), .ow (.lst [dI (m.count 49)]), .un, .un] = some (.nx [.im (.scr ns), .ow d2, .im (.str m), .im (.str s), .im (.int m.length), .im h', .ow (.lst ([dI (m.count 49)] ++ (trail m s).map dI)), lv o', .un]) :=
    ex_for_of (ds := [.str s]) (e1 := [.im (.scr ns), .ow d2, .im (.str m), .im (.str s), .im (.int m.length), .im (dI (m.count 49)), .ow (.lst [dI (m.count 49)]), .un, .un]) (e2 := [.im (.scr ns), .ow d2, .im (.str m), .im (.str s), .im (.int m.length), .im (dI (m.count 49)), .ow (.lst [dI (m.count 49)]), .un, .un]) (rs := [.pers (.str s)]) (by simp [ex, ev, evs, evt, gets, settles, Rv.get, Rv.settle, B.data, B.isOw, ownAt, lstAt, truth, Tg.bind, Tg.binds, runI, runO, initI, initO, outO]) (by simp [ex, ev, evs, evt, gets, settles, Rv.get, Rv.settle, B.data, B.isOw, ownAt, lstAt, truth, Tg.bind, Tg.binds, runI, runO, initI, initO, outO]) rfl b4
  have b6 := heights_spec m3 m1 m2 s2 hs200
  have b7 := tuple_of ([dI (m.count 49)] ++ (trail m s).map dI) (by rw [List.length_append, List.length_map, trail_len]; show 1 + _ ≤ _; omega)
  have alkI : ∀ l : List Nat, alkL 4 (l.map dI) = true := by
    intro l
    induction l with
    | nil => rfl
    | cons a l ih => unfold List.map alkL; rw [ih]; rfl
  have b8 := alike_same 5 (.tup ((m.count 49 :: trail m s).map dI)) (by
    unfold alk
    rw [alkI, Bool.and_true]
    exact decide_eq_true (by rw [List.length_map, List.length_cons, trail_len]; omega))
  have b9 := lasting_spec (n := m.length) m1 m2 s2 hs200
  have c1 : mulF [.str [48], .int (m.length : Int)] = some (.str (List.replicate m.length 48)) := rep_str 48 m.length (by omega) (by omega)
  have c2 := law_behind_spec (m := List.replicate m.length 48) (s := s) (by rw [List.length_replicate]; omega)
  have c3 := alike_same 5 (.str (behL (List.replicate m.length 48) s)) rfl
  have c4 := sl_to' (s := s) hj (by omega)
  have c5 := sl_from (s := s) (j := j) (by omega)
  have c6 := after_spec m3 m1 m2 (s := s.take j) (fun c hc => s2 c (List.mem_of_mem_take hc)) (by rw [List.length_take]; omega)
  have c7 := after_spec (m := behL m (s.take j)) (beh_mem _ m3) (by rw [beh_len]; exact m1) (by rw [beh_len]; exact m2) (s := s.drop j) (fun c hc => s2 c (List.mem_of_mem_drop hc)) (by rw [List.length_drop]; omega)
  rw [beh_append, List.take_append_drop] at c7
  have c8 : mulF [.str [117], .int (m.length : Int)] = some (.str (List.replicate m.length 117)) := rep_str 117 m.length (by omega) (by omega)
  have c9 : mulF [.str [49], .int (m.length : Int)] = some (.str (List.replicate m.length 49)) := rep_str 49 m.length (by omega) (by omega)
  have d1' := after_spec m3 m1 m2 (s := List.replicate m.length 117) (fun c hc => .inl (List.mem_replicate.mp hc).2) (by rw [List.length_replicate]; omega)
  rw [ups_ones m3] at d1'
  have f1 : lenF [.str m] = some (.int m.length) := if_pos (by omega)
  have f2 : lenF [.str s] = some (.int s.length) := if_pos (by omega)
  have f3 : countF [.str m, .str [49]] = some (dI (m.count 49)) := rfl
  have f4 : lstF [.scr ns, .int 0, .int 5500, .int 0] = some (.lst [.scr ns, .int 0, .int 5500, .int 0]) := rfl
  have f5 : lstF [dI (m.count 49)] = some (.lst [dI (m.count 49)]) := rfl
  have f6 : addF [.int s.length, .int 1] = some (.int ((s.length : Int) + 1)) := rfl
  have f7 : ∀ x : List Nat, neF [.str x, .str x] = some (.bl false) := fun x => by simp [neF, scl, D.eqv]
  have f8 : ∀ x : List Nat, eqF [.str x, .str x] = some (.bl true) := fun x => by simp [eqF, scl, D.eqv]
  have e5 : ((9 : Nat) : Int) = 9 := rfl
  rw [e5] at a1
  show runI 1 9 s_law [.scr ns] = _
  unfold s_law
  obtain ⟨x1, h1⟩ : ∃ x, x = φ__law_memory := ⟨_, rfl⟩
  obtain ⟨x2, h2⟩ : ∃ x, x = φ__law_steps := ⟨_, rfl⟩
  obtain ⟨x3, h3⟩ : ∃ x, x = φ__law_alike 6 := ⟨_, rfl⟩
  obtain ⟨x4, h4⟩ : ∃ x, x = φ_after := ⟨_, rfl⟩
  obtain ⟨x5, h5⟩ : ∃ x, x = φ__law_behind := ⟨_, rfl⟩
  obtain ⟨x6, h6⟩ : ∃ x, x = fl_law_1 := ⟨_, rfl⟩
  obtain ⟨x7, h7⟩ : ∃ x, x = φ_heights := ⟨_, rfl⟩
  obtain ⟨x8, h8⟩ : ∃ x, x = φ_lasting := ⟨_, rfl⟩
  obtain ⟨x9, h9⟩ : ∃ x, x = φ__law_taken := ⟨_, rfl⟩
  obtain ⟨y1, g1⟩ : ∃ x, x = lenF := ⟨_, rfl⟩
  obtain ⟨y2, g2⟩ : ∃ x, x = countF := ⟨_, rfl⟩
  obtain ⟨y3, g3⟩ : ∃ x, x = lstF := ⟨_, rfl⟩
  obtain ⟨y4, g4⟩ : ∃ x, x = addF := ⟨_, rfl⟩
  obtain ⟨y5, g5⟩ : ∃ x, x = mulF := ⟨_, rfl⟩
  obtain ⟨y6, g6⟩ : ∃ x, x = tupleF := ⟨_, rfl⟩
  obtain ⟨y7, g7⟩ : ∃ x, x = neF := ⟨_, rfl⟩
  obtain ⟨y8, g8⟩ : ∃ x, x = eqF := ⟨_, rfl⟩
  rw [← h1] at a1 ⊢
  rw [← h2] at a2 ⊢
  rw [show φ__law_alike (5 + 1) = φ__law_alike 6 from rfl, ← h3] at b3 b8 c3
  rw [← h3]
  rw [← h4] at b1 c6 c7 d1' ⊢
  rw [← h5] at b2 c2 ⊢
  rw [← h6] at b5 ⊢
  rw [← h7] at b6 ⊢
  rw [← h8] at b9 ⊢
  rw [← h9] at a3 ⊢
  rw [← g1] at f1 f2 ⊢
  rw [← g2] at f3 ⊢
  rw [← g3] at f4 f5 ⊢
  rw [← g4] at f6 ⊢
  rw [← g5] at c1 c8 c9 ⊢
  rw [← g6] at b7 ⊢
  rw [← g7] at f7 ⊢
  rw [← g8] at f8 ⊢
  have hcons : [dI (m.count 49)] ++ (trail m s).map dI = dI (m.count 49) :: (trail m s).map dI := rfl
  rw [hcons] at b5 b7
  rw [List.map_cons] at b6 b8
  have nT : notF [.bl true] = some (.bl false) := rfl
  simp only [a1, a2, a3, b1, b2, b3, b5, b6, b7, b8, b9, c1, c2, c3, c4, c5, c6, c7, c8, c9, d1', f1, f2, f3, f4, f5, f6, f7, f8, nT, ex, ev, evs, evt, gets, settles, Rv.get, Rv.settle, B.data, B.isOw, ownAt, lstAt, truth, Tg.bind, Tg.binds, runI, runO, initI, initO, outO, List.length_cons, List.length_nil, List.map_cons, List.map_nil, List.cons_append, List.nil_append, List.replicate, Nat.reduceAdd, Nat.reduceSub, List.getElem?_cons_succ, List.getElem?_cons_zero, List.set_cons_succ, List.set_cons_zero, if_true]
end Mi

namespace Mi
open PySem PySem.Spec PyProof.Rows L2 GxR
def top (i : Nat) : Stmt := PySem.Challenge.pw_relaybanks_k00_whole_memories.main.body.getD i (.Pass ⟨0, 0, 0, 0⟩)
structure Fx (K : Frag) (mg : Str → Option Value) (base : Heap) (C : Cfg) : Prop where
  hK : C.K = K
  g_all : mg "all" = none
  g_bool : mg "bool" = none
  g_int : mg "int" = none
  g_isinstance : mg "isinstance" = none
  g_len : mg "len" = none
  g_list : mg "list" = none
  g_max : mg "max" = none
  g_min : mg "min" = none
  g_range : mg "range" = none
  g_str : mg "str" = none
  g_tuple : mg "tuple" = none
  i_MOST_SPAN : ∃ t, mg "MOST_SPAN" = some (.int 9 t)
  i_MOST_STEPS : ∃ t, mg "MOST_STEPS" = some (.int 200 t)
  m__law_taken : mg "_law_taken" = some (.ref (He.ga K "_law_taken"))
  k__law_taken : PySem.W.keepIn K (.ref (He.ga K "_law_taken")) = true
  f__law_taken : ∃ fd, FunD K "_law_taken" "_law_taken" (defArgs (top 20)) (defBody (top 20)) (defScope (top 20)) [] [] (He.ga K "_law_taken") fd
  m__law_pick : mg "_law_pick" = some (.ref (He.ga K "_law_pick"))
  k__law_pick : PySem.W.keepIn K (.ref (He.ga K "_law_pick")) = true
  f__law_pick : ∃ fd, FunD K "_law_pick" "_law_pick" (defArgs (top 21)) (defBody (top 21)) (defScope (top 21)) [] [] (He.ga K "_law_pick") fd
  m__law_memory : mg "_law_memory" = some (.ref (He.ga K "_law_memory"))
  k__law_memory : PySem.W.keepIn K (.ref (He.ga K "_law_memory")) = true
  f__law_memory : ∃ fd, FunD K "_law_memory" "_law_memory" (defArgs (top 26)) (defBody (top 26)) (defScope (top 26)) [] [] (He.ga K "_law_memory") fd
  m__law_steps : mg "_law_steps" = some (.ref (He.ga K "_law_steps"))
  k__law_steps : PySem.W.keepIn K (.ref (He.ga K "_law_steps")) = true
  f__law_steps : ∃ fd, FunD K "_law_steps" "_law_steps" (defArgs (top 27)) (defBody (top 27)) (defScope (top 27)) [] [] (He.ga K "_law_steps") fd
  m__law_alike : mg "_law_alike" = some (.ref (He.ga K "_law_alike"))
  k__law_alike : PySem.W.keepIn K (.ref (He.ga K "_law_alike")) = true
  f__law_alike : ∃ fd, FunD K "_law_alike" "_law_alike" (defArgs (top 22)) (defBody (top 22)) (defScope (top 22)) [] [] (He.ga K "_law_alike") fd
  m_is_memory : mg "is_memory" = some (.ref (He.ga K "is_memory"))
  k_is_memory : PySem.W.keepIn K (.ref (He.ga K "is_memory")) = true
  f_is_memory : ∃ fd, FunD K "is_memory" "is_memory" (defArgs (top 9)) (defBody (top 9)) (defScope (top 9)) [] [] (He.ga K "is_memory") fd
  tb_is_memory : TabB base mg (He.codeOf K ("is_memory", none)) (He.tabOf K (He.codeOf K ("is_memory", none)))
  tm_is_memory : He.tabOf K (He.codeOf K ("is_memory", none)) ∈ C.tt
  tc_is_memory : ∀ (oc : Value) (od : Option Addr) (osl : Array (Option Value)) (fd : FuncData), K.lookup (He.ga K "is_memory") = some ⟨oc, od, .func fd, osl⟩ → fd.code = .ref (He.codeOf K ("is_memory", none))
  m_need_memory : mg "need_memory" = some (.ref (He.ga K "need_memory"))
  k_need_memory : PySem.W.keepIn K (.ref (He.ga K "need_memory")) = true
  f_need_memory : ∃ fd, FunD K "need_memory" "need_memory" (defArgs (top 10)) (defBody (top 10)) (defScope (top 10)) [] [] (He.ga K "need_memory") fd
  m_is_input : mg "is_input" = some (.ref (He.ga K "is_input"))
  k_is_input : PySem.W.keepIn K (.ref (He.ga K "is_input")) = true
  f_is_input : ∃ fd, FunD K "is_input" "is_input" (defArgs (top 11)) (defBody (top 11)) (defScope (top 11)) [] [] (He.ga K "is_input") fd
  tb_is_input : TabB base mg (He.codeOf K ("is_input", none)) (He.tabOf K (He.codeOf K ("is_input", none)))
  tm_is_input : He.tabOf K (He.codeOf K ("is_input", none)) ∈ C.tt
  tc_is_input : ∀ (oc : Value) (od : Option Addr) (osl : Array (Option Value)) (fd : FuncData), K.lookup (He.ga K "is_input") = some ⟨oc, od, .func fd, osl⟩ → fd.code = .ref (He.codeOf K ("is_input", none))
  m_need_input : mg "need_input" = some (.ref (He.ga K "need_input"))
  k_need_input : PySem.W.keepIn K (.ref (He.ga K "need_input")) = true
  f_need_input : ∃ fd, FunD K "need_input" "need_input" (defArgs (top 12)) (defBody (top 12)) (defScope (top 12)) [] [] (He.ga K "need_input") fd
  m_step : mg "step" = some (.ref (He.ga K "step"))
  k_step : PySem.W.keepIn K (.ref (He.ga K "step")) = true
  f_step : ∃ fd, FunD K "step" "step" (defArgs (top 14)) (defBody (top 14)) (defScope (top 14)) [] [] (He.ga K "step") fd
  m_behind : mg "behind" = some (.ref (He.ga K "behind"))
  k_behind : PySem.W.keepIn K (.ref (He.ga K "behind")) = true
  f_behind : ∃ fd, FunD K "behind" "behind" (defArgs (top 15)) (defBody (top 15)) (defScope (top 15)) [] [] (He.ga K "behind") fd
  m_after : mg "after" = some (.ref (He.ga K "after"))
  k_after : PySem.W.keepIn K (.ref (He.ga K "after")) = true
  f_after : ∃ fd, FunD K "after" "after" (defArgs (top 16)) (defBody (top 16)) (defScope (top 16)) [] [] (He.ga K "after") fd
  m__law_step : mg "_law_step" = some (.ref (He.ga K "_law_step"))
  k__law_step : PySem.W.keepIn K (.ref (He.ga K "_law_step")) = true
  f__law_step : ∃ fd, FunD K "_law_step" "_law_step" (defArgs (top 23)) (defBody (top 23)) (defScope (top 23)) [] [] (He.ga K "_law_step") fd
  m__law_behind : mg "_law_behind" = some (.ref (He.ga K "_law_behind"))
  k__law_behind : PySem.W.keepIn K (.ref (He.ga K "_law_behind")) = true
  f__law_behind : ∃ fd, FunD K "_law_behind" "_law_behind" (defArgs (top 24)) (defBody (top 24)) (defScope (top 24)) [] [] (He.ga K "_law_behind") fd
  m_heights : mg "heights" = some (.ref (He.ga K "heights"))
  k_heights : PySem.W.keepIn K (.ref (He.ga K "heights")) = true
  f_heights : ∃ fd, FunD K "heights" "heights" (defArgs (top 17)) (defBody (top 17)) (defScope (top 17)) [] [] (He.ga K "heights") fd
  m_is_in : mg "is_in" = some (.ref (He.ga K "is_in"))
  k_is_in : PySem.W.keepIn K (.ref (He.ga K "is_in")) = true
  f_is_in : ∃ fd, FunD K "is_in" "is_in" (defArgs (top 8)) (defBody (top 8)) (defScope (top 8)) [] [] (He.ga K "is_in") fd
  m_need_span : mg "need_span" = some (.ref (He.ga K "need_span"))
  k_need_span : PySem.W.keepIn K (.ref (He.ga K "need_span")) = true
  f_need_span : ∃ fd, FunD K "need_span" "need_span" (defArgs (top 13)) (defBody (top 13)) (defScope (top 13)) [] [] (He.ga K "need_span") fd
  m_lasting : mg "lasting" = some (.ref (He.ga K "lasting"))
  k_lasting : PySem.W.keepIn K (.ref (He.ga K "lasting")) = true
  f_lasting : ∃ fd, FunD K "lasting" "lasting" (defArgs (top 18)) (defBody (top 18)) (defScope (top 18)) [] [] (He.ga K "lasting") fd
  m_law : mg "law" = some (.ref (He.ga K "law"))
  k_law : PySem.W.keepIn K (.ref (He.ga K "law")) = true
  f_law : ∃ fd, FunD K "law" "law" (defArgs (top 28)) (defBody (top 28)) (defScope (top 28)) [] [] (He.ga K "law") fd
abbrev st__law_taken : Stmt := top 20
def N__law_taken : List Str := ["_law_row", "_law_many", "_law_found", "_law_cell"]
theorem sc__law_taken : FnScope N__law_taken ["_law_row", "_law_many"] (defScope st__law_taken) := ⟨rfl, rfl, rfl, by decide +kernel, rfl, by decide +kernel, by decide +kernel⟩
theorem d__law_taken {P : Program} {w : World} {K : Frag} {mg : Str → Option Value} {base : Heap} {C : Cfg} (Z : Fx K mg base C)  {cdv : Value} {A : Around} {outer : List Env} {s0 : Shared} {H : Hp} {E : XK} (hr : Room 1 (A.deeper (envOfC "_law_taken" (defScope st__law_taken) s0.heap.objs.size (He.ga K "_law_taken") (cdv)))) :
    PSs (cxOf CX0 P w K mg base N__law_taken "_law_taken" (defScope st__law_taken) (He.ga K "_law_taken") (cdv) A outer s0 H E).nox (defBody st__law_taken) (tS C s__law_taken) :=
  (css_cons (cs_if (ct_cmp op_gtA cmpF_ok cmpF_two cmpF_boo (ce_ix ix_seq (ixF_ok Z.hK) ixF_two (ce_var (pv 0)) ce_int (fun _ _ => rfl)) ce_int (by rfl)) (css_cons (cs_name (fun q => ps_set (i := 2) sc__law_taken.nd rfl (by first | exact Or.inl rfl | exact Or.inr rfl) q) (ce_bin op_modN modF_ok modF_two (ce_callTy call_int1 intF_ok (by rfl) Z.g_int (by decide +kernel) (ca_cons (ce_ix ix_seq (ixF_ok Z.hK) ixF_two (ce_var (pv 0)) ce_int (fun _ _ => rfl)) ca_nil)) (ce_var (pv 1))))
      (css_cons (cs_subL (fun q qi => ps_asg q (pg_sub (pv 0) qi set_list)) (ce_bin op_fdivN fdivF_ok fdivF_two (ce_ix ix_seq (ixF_ok Z.hK) ixF_two (ce_var (pv 0)) ce_int (fun _ _ => rfl)) (ce_var (pv 1))) ce_int)
      (css_one (cs_ret (ce_var (pv 2)))))) css_nil)
    (css_cons (cs_subL (fun q qi => ps_asg q (pg_sub (pv 0) qi set_list)) (ce_bin op_addA (addF_ok Z.hK) addF_two (ce_ix ix_seq (ixF_ok Z.hK) ixF_two (ce_var (pv 0)) ce_int (fun _ _ => rfl)) ce_int) ce_int)
    (css_cons (cs_if (ct_cmp op_gtA cmpF_ok cmpF_two cmpF_boo (ce_ix ix_seq (ixF_ok Z.hK) ixF_two (ce_var (pv 0)) ce_int (fun _ _ => rfl)) (ce_callB call_len (lenF_ok Z.hK) (by rfl) Z.g_len (by decide +kernel) (ca_cons (ce_ix ix_seq (ixF_ok Z.hK) ixF_two (ce_var (pv 0)) ce_int (fun _ _ => rfl)) ca_nil)) (by rfl)) (css_cons (cs_subL (fun q qi => ps_asg q (pg_sub (pv 0) qi set_list)) (ce_bin op_modN modF_ok modF_two (ce_callTy call_int1 intF_ok (by rfl) Z.g_int (by decide +kernel) (ca_cons (ce_bin op_addA (addF_ok Z.hK) addF_two (ce_bin op_mulA mulF_ok mulF_two (ce_ix ix_seq (ixF_ok Z.hK) ixF_two (ce_var (pv 0)) ce_int (fun _ _ => rfl)) ce_int) ce_int) ca_nil)) ce_int) ce_int)
      (css_one (cs_ret (ce_bin op_modN modF_ok modF_two (ce_callTy call_int1 intF_ok (by rfl) Z.g_int (by decide +kernel) (ca_cons (ce_bin op_fdivN fdivF_ok fdivF_two (ce_ix ix_seq (ixF_ok Z.hK) ixF_two (ce_var (pv 0)) ce_int (fun _ _ => rfl)) ce_int) ca_nil)) (ce_var (pv 1)))))) css_nil)
    (css_cons (cs_name (fun q => ps_set (i := 3) sc__law_taken.nd rfl (by first | exact Or.inl rfl | exact Or.inr rfl) q) (ce_ix ix_seq (ixF_ok Z.hK) ixF_two (ce_ix ix_seq (ixF_ok Z.hK) ixF_two (ce_var (pv 0)) ce_int (fun _ _ => rfl)) (ce_bin op_sub subF_ok subF_two (ce_ix ix_seq (ixF_ok Z.hK) ixF_two (ce_var (pv 0)) ce_int (fun _ _ => rfl)) ce_int) (fun _ _ => rfl)))
    (css_cons (cs_subL (fun q qi => ps_asg q (pg_sub (pv 0) qi set_list)) (ce_bin op_modN modF_ok modF_two (ce_callTy call_int1 intF_ok (by rfl) Z.g_int (by decide +kernel) (ca_cons (ce_bin op_addA (addF_ok Z.hK) addF_two (ce_bin op_addA (addF_ok Z.hK) addF_two (ce_bin op_mulA mulF_ok mulF_two (ce_ix ix_seq (ixF_ok Z.hK) ixF_two (ce_var (pv 0)) ce_int (fun _ _ => rfl)) ce_int) (ce_var (pv 3))) ce_int) ca_nil)) ce_int) ce_int)
    (css_cons (cs_if (ct_cmp op_geA cmpF_ok cmpF_two cmpF_boo (ce_var (pv 3)) (ce_bin op_pow powF_ok powF_two ce_int ce_int) (by rfl)) (css_one (cs_subL (fun q qi => ps_asg q (pg_sub (pv 0) qi set_list)) (ce_bin op_fdivN fdivF_ok fdivF_two (ce_var (pv 3)) (ce_var (pv 1))) ce_int)) css_nil)
    (css_one (cs_ret (ce_bin op_modN modF_ok modF_two (ce_callTy call_int1 intF_ok (by rfl) Z.g_int (by decide +kernel) (ca_cons (ce_var (pv 3)) ca_nil)) (ce_var (pv 1)))))))))))
theorem c__law_taken {P : Program} {w : World} {K : Frag} {mg : Str → Option Value} {base : Heap} {C : Cfg} (Z : Fx K mg base C) : ∃ fd, FnOk P w K mg base CX0 2 (He.ga K "_law_taken") fd ["_law_row", "_law_many"] (spO C 2 φ__law_taken) ∧ Binds K fd ["_law_row", "_law_many"] [] := by
  obtain ⟨fd, F⟩ := Z.f__law_taken
  refine ⟨fd, ?_, F.bindsN fun _ _ _ _ _ _ us hl => match us, hl with | [_, _], _ => rfl⟩
  exact fnO_of F sc__law_taken Z.hK (fun cdv A outer s0 H E hcd hr => d__law_taken Z  hr)
abbrev st__law_pick : Stmt := top 21
def N__law_pick : List Str := ["_law_row", "_law_things"]
theorem sc__law_pick : FnScope N__law_pick ["_law_row", "_law_things"] (defScope st__law_pick) := ⟨rfl, rfl, rfl, by decide +kernel, rfl, by decide +kernel, by decide +kernel⟩
theorem d__law_pick {P : Program} {w : World} {K : Frag} {mg : Str → Option Value} {base : Heap} {C : Cfg} (Z : Fx K mg base C) {fd__law_taken : FuncData} (F__law_taken : FnOk P w K mg base CX0 2 (He.ga K "_law_taken") fd__law_taken ["_law_row", "_law_many"] (spO C 2 φ__law_taken)) (B__law_taken : Binds K fd__law_taken ["_law_row", "_law_many"] []) {cdv : Value} {A : Around} {outer : List Env} {s0 : Shared} {H : Hp} {E : XK} (hr : Room 2 (A.deeper (envOfC "_law_pick" (defScope st__law_pick) s0.heap.objs.size (He.ga K "_law_pick") (cdv)))) :
    PSs (cxOf CX0 P w K mg base N__law_pick "_law_pick" (defScope st__law_pick) (He.ga K "_law_pick") (cdv) A outer s0 H E).nox (defBody st__law_pick) (tS C s__law_pick) :=
  (css_one (cs_ret (ce_ix ix_seq (ixF_ok Z.hK) ixF_two (ce_var (pv 1)) (ce_callO (F__law_taken.mono (by decide)) hr (by rfl) Z.m__law_taken Z.k__law_taken B__law_taken (pv 0) (ca_cons (ce_callB call_len (lenF_ok Z.hK) (by rfl) Z.g_len (by decide +kernel) (ca_cons (ce_var (pv 1)) ca_nil)) ca_nil) rfl) (fun _ _ => rfl))))
theorem c__law_pick {P : Program} {w : World} {K : Frag} {mg : Str → Option Value} {base : Heap} {C : Cfg} (Z : Fx K mg base C) : ∃ fd, FnOk P w K mg base CX0 3 (He.ga K "_law_pick") fd ["_law_row", "_law_things"] (spO C 2 φ__law_pick) ∧ Binds K fd ["_law_row", "_law_things"] [] := by
  obtain ⟨fd, F⟩ := Z.f__law_pick
  obtain ⟨fd__law_taken, F__law_taken, B__law_taken⟩ := c__law_taken (P := P) (w := w) Z
  refine ⟨fd, ?_, F.bindsN fun _ _ _ _ _ _ us hl => match us, hl with | [_, _], _ => rfl⟩
  exact fnO_of F sc__law_pick Z.hK (fun cdv A outer s0 H E hcd hr => d__law_pick Z F__law_taken B__law_taken hr)
abbrev st__law_memory : Stmt := top 26
def N__law_memory : List Str := ["_law_row", "_law_most", "_law_k"]
theorem sc__law_memory : FnScope N__law_memory ["_law_row", "_law_most"] (defScope st__law_memory) := ⟨rfl, rfl, rfl, by decide +kernel, rfl, by decide +kernel, by decide +kernel⟩
theorem d__law_memory {P : Program} {w : World} {K : Frag} {mg : Str → Option Value} {base : Heap} {C : Cfg} (Z : Fx K mg base C) {fd__law_pick : FuncData} (F__law_pick : FnOk P w K mg base CX0 3 (He.ga K "_law_pick") fd__law_pick ["_law_row", "_law_things"] (spO C 2 φ__law_pick)) (B__law_pick : Binds K fd__law_pick ["_law_row", "_law_things"] []) {fd__law_taken : FuncData} (F__law_taken : FnOk P w K mg base CX0 2 (He.ga K "_law_taken") fd__law_taken ["_law_row", "_law_many"] (spO C 2 φ__law_taken)) (B__law_taken : Binds K fd__law_taken ["_law_row", "_law_many"] []) {cdv : Value} {A : Around} {outer : List Env} {s0 : Shared} {H : Hp} {E : XK} (hr : Room 3 (A.deeper (envOfC "_law_memory" (defScope st__law_memory) s0.heap.objs.size (He.ga K "_law_memory") (cdv)))) :
    PSs (cxOf CX0 P w K mg base N__law_memory "_law_memory" (defScope st__law_memory) (He.ga K "_law_memory") (cdv) A outer s0 H E).nox (defBody st__law_memory) (tS C s__law_memory) :=
  (css_one (cs_ret (ce_strm (joinF_ok Z.hK) joinF_str (fun q qa => pe_bm PySem.F.plainAttrs_str PySem.F.slot_str_join PySem.F.type_str_join mt_join q qa) (ce_str (by rfl)) (ca_cons (cf_lcE (cf_lc (own := [("_law_k", 2)]) rfl sc__law_memory.nd (ci_range1 (by rfl) Z.g_range (ca_cons (ce_bin op_addA (addF_ok Z.hK) addF_two ce_int (ce_callO (F__law_taken.mono (by decide)) hr (by rfl) Z.m__law_taken Z.k__law_taken B__law_taken (pv 0) (ca_cons (ce_var (pv 1)) ca_nil) rfl)) ca_nil)) (blkE (N2 := N__law_memory) (sc2 := defScope st__law_memory) rfl rfl ⟨rfl, by decide +kernel, by decide +kernel, by decide +kernel, by decide +kernel⟩) (fun _ _ _ _ _ => (cg_name (pg_name (i := 2) sc__law_memory.nd rfl (by first | exact Or.inl rfl | exact Or.inr rfl)))) (fun _ _ _ _ _ => cts_nil) (fun _ _ _ _ _ => (ce_callO (F__law_pick.mono (by decide)) hr (by rfl) Z.m__law_pick Z.k__law_pick B__law_pick (pv 0) (ca_cons (ce_str (by rfl)) ca_nil) rfl)) (by decide))) ca_nil))))
theorem c__law_memory {P : Program} {w : World} {K : Frag} {mg : Str → Option Value} {base : Heap} {C : Cfg} (Z : Fx K mg base C) : ∃ fd, FnOk P w K mg base CX0 4 (He.ga K "_law_memory") fd ["_law_row", "_law_most"] (spO C 2 φ__law_memory) ∧ Binds K fd ["_law_row", "_law_most"] [] := by
  obtain ⟨fd, F⟩ := Z.f__law_memory
  obtain ⟨fd__law_pick, F__law_pick, B__law_pick⟩ := c__law_pick (P := P) (w := w) Z
  obtain ⟨fd__law_taken, F__law_taken, B__law_taken⟩ := c__law_taken (P := P) (w := w) Z
  refine ⟨fd, ?_, F.bindsN fun _ _ _ _ _ _ us hl => match us, hl with | [_, _], _ => rfl⟩
  exact fnO_of F sc__law_memory Z.hK (fun cdv A outer s0 H E hcd hr => d__law_memory Z F__law_pick B__law_pick F__law_taken B__law_taken hr)
abbrev st__law_steps : Stmt := top 27
def N__law_steps : List Str := ["_law_row", "_law_letter", "_law_found", "_law_turn"]
theorem sc__law_steps : FnScope N__law_steps ["_law_row"] (defScope st__law_steps) := ⟨rfl, rfl, rfl, by decide +kernel, rfl, by decide +kernel, by decide +kernel⟩
theorem d__law_steps {P : Program} {w : World} {K : Frag} {mg : Str → Option Value} {base : Heap} {C : Cfg} (Z : Fx K mg base C) {fd__law_pick : FuncData} (F__law_pick : FnOk P w K mg base CX0 3 (He.ga K "_law_pick") fd__law_pick ["_law_row", "_law_things"] (spO C 2 φ__law_pick)) (B__law_pick : Binds K fd__law_pick ["_law_row", "_law_things"] []) {fd__law_taken : FuncData} (F__law_taken : FnOk P w K mg base CX0 2 (He.ga K "_law_taken") fd__law_taken ["_law_row", "_law_many"] (spO C 2 φ__law_taken)) (B__law_taken : Binds K fd__law_taken ["_law_row", "_law_many"] []) {cdv : Value} {A : Around} {outer : List Env} {s0 : Shared} {H : Hp} {E : XK} (hr : Room 3 (A.deeper (envOfC "_law_steps" (defScope st__law_steps) s0.heap.objs.size (He.ga K "_law_steps") (cdv)))) :
    PSs (cxOf CX0 P w K mg base N__law_steps "_law_steps" (defScope st__law_steps) (He.ga K "_law_steps") (cdv) A outer s0 H E).nox (defBody st__law_steps) (tS C s__law_steps) :=
  (css_cons (cs_par (i := 1) (j := 2) rfl sc__law_steps.nd rfl rfl (by decide) rfl rfl (ca_cons (ce_callO (F__law_pick.mono (by decide)) hr (by rfl) Z.m__law_pick Z.k__law_pick B__law_pick (pv 0) (ca_cons (ce_str (by rfl)) ca_nil) rfl) (ca_cons (ce_str (by rfl)) ca_nil)) (by rfl))
    (css_cons (cs_for PassesOwn.never rfl (ci_range1 (by rfl) Z.g_range (ca_cons (ce_callO (F__law_taken.mono (by decide)) hr (by rfl) Z.m__law_taken Z.k__law_taken B__law_taken (pv 0) (ca_cons ce_int ca_nil) rfl) ca_nil)) (cg_name (pg_name (i := 3) sc__law_steps.nd rfl (by first | exact Or.inl rfl | exact Or.inr rfl))) (css_cons (cs_name (fun q => ps_set (i := 2) sc__law_steps.nd rfl (by first | exact Or.inl rfl | exact Or.inr rfl) q) (ce_bin op_addA (addF_ok Z.hK) addF_two (ce_var (pv 2)) (ce_bin op_mulA mulF_ok mulF_two (ce_var (pv 1)) (ce_bin op_addA (addF_ok Z.hK) addF_two ce_int (ce_callO (F__law_pick.mono (by decide)) hr (by rfl) Z.m__law_pick Z.k__law_pick B__law_pick (pv 0) (ca_cons (ce_lst (ca_cons ce_int (ca_cons ce_int (ca_cons (ce_callO (F__law_taken.mono (by decide)) hr (by rfl) Z.m__law_taken Z.k__law_taken B__law_taken (pv 0) (ca_cons ce_int ca_nil) rfl) ca_nil)))) ca_nil) rfl)))))
      (css_one (cs_name (fun q => ps_set (i := 1) sc__law_steps.nd rfl (by first | exact Or.inl rfl | exact Or.inr rfl) q) (ce_ite (ct_cmp (op_eqA hr.units) (eqF_ok Z.hK) eqF_two eqF_boo (ce_var (pv 1)) (ce_str (by rfl)) (by rfl)) (ce_str (by rfl)) (ce_str (by rfl)))))))
    (css_one (cs_ret (ce_var (pv 2))))))
theorem c__law_steps {P : Program} {w : World} {K : Frag} {mg : Str → Option Value} {base : Heap} {C : Cfg} (Z : Fx K mg base C) : ∃ fd, FnOk P w K mg base CX0 4 (He.ga K "_law_steps") fd ["_law_row"] (spO C 1 φ__law_steps) ∧ Binds K fd ["_law_row"] [] := by
  obtain ⟨fd, F⟩ := Z.f__law_steps
  obtain ⟨fd__law_pick, F__law_pick, B__law_pick⟩ := c__law_pick (P := P) (w := w) Z
  obtain ⟨fd__law_taken, F__law_taken, B__law_taken⟩ := c__law_taken (P := P) (w := w) Z
  refine ⟨fd, ?_, F.bindsN fun _ _ _ _ _ _ us hl => match us, hl with | [_], _ => rfl⟩
  exact fnO_of F sc__law_steps Z.hK (fun cdv A outer s0 H E hcd hr => d__law_steps Z F__law_pick B__law_pick F__law_taken B__law_taken hr)
abbrev st__law_alike : Stmt := top 22
def N__law_alike : List Str := ["_law_found", "_law_due", "_law_k"]
theorem sc__law_alike : FnScope N__law_alike ["_law_found", "_law_due"] (defScope st__law_alike) := ⟨rfl, rfl, rfl, by decide +kernel, rfl, by decide +kernel, by decide +kernel⟩
theorem d__law_alike {P : Program} {w : World} {K : Frag} {mg : Str → Option Value} {base : Heap} {C : Cfg} (Z : Fx K mg base C)  {fd : FuncData} (B : Binds K fd ["_law_found", "_law_due"] []) {φ : List D → Option D} {k : Nat} (hk : 1 ≤ k) (ih : FnOk P w K mg base CX0 k (He.ga K "_law_alike") fd ["_law_found", "_law_due"] (spI C 2 φ)) {cdv : Value} {A : Around} {outer : List Env} {s0 : Shared} {H : Hp} {E : XK} (hr : Room k (A.deeper (envOfC "_law_alike" (defScope st__law_alike) s0.heap.objs.size (He.ga K "_law_alike") (cdv)))) :
    PSs (cxOf CX0 P w K mg base N__law_alike "_law_alike" (defScope st__law_alike) (He.ga K "_law_alike") (cdv) A outer s0 H E).nox (defBody st__law_alike) (tS C (s__law_alike φ)) :=
  (css_cons (cs_if (ct_truth (ce_isi2 Z.hK (T := .tuple) (U := .list) (fun q => pe_callB call_isiT (by rfl) Z.g_isinstance (by decide +kernel) (pa_cons q (pa_cons (pe_tup (pa_cons (pe_bltn (v := .ty "tuple") (by rfl) Z.g_tuple (by decide +kernel) rfl) (pa_cons (pe_bltn (v := .ty "list") (by rfl) Z.g_list (by decide +kernel) rfl) pa_nil))) pa_nil))) (ce_var (pv 1))) Z.hK (by intro _; rfl)) (css_cons (cs_if (cw_or (ct_notF (ct_truth (ce_isi2 Z.hK (T := .tuple) (U := .list) (fun q => pe_callB call_isiT (by rfl) Z.g_isinstance (by decide +kernel) (pa_cons q (pa_cons (pe_tup (pa_cons (pe_bltn (v := .ty "tuple") (by rfl) Z.g_tuple (by decide +kernel) rfl) (pa_cons (pe_bltn (v := .ty "list") (by rfl) Z.g_list (by decide +kernel) rfl) pa_nil))) pa_nil))) (ce_var (pv 0))) Z.hK (by intro _; rfl))) (cw_or1 (ct_cmp (op_neA hr.units) (neF_ok Z.hK) neF_two neF_boo (ce_isi Z.hK (T := .list) (fun q => pe_callB call_isi (by rfl) Z.g_isinstance (by decide +kernel) (pa_cons q (pa_cons (pe_bltn (v := .ty "list") (by rfl) Z.g_list (by decide +kernel) rfl) pa_nil))) (ce_var (pv 0))) (ce_isi Z.hK (T := .list) (fun q => pe_callB call_isi (by rfl) Z.g_isinstance (by decide +kernel) (pa_cons q (pa_cons (pe_bltn (v := .ty "list") (by rfl) Z.g_list (by decide +kernel) rfl) pa_nil))) (ce_var (pv 1))) (by rfl)))).pt (css_one (cs_ret ce_bl)) css_nil)
      (css_cons (cs_if (ct_cmp (op_neA hr.units) (neF_ok Z.hK) neF_two neF_boo (ce_callB call_len (lenF_ok Z.hK) (by rfl) Z.g_len (by decide +kernel) (ca_cons (ce_var (pv 0)) ca_nil)) (ce_callB call_len (lenF_ok Z.hK) (by rfl) Z.g_len (by decide +kernel) (ca_cons (ce_var (pv 1)) ca_nil)) (by rfl)) (css_one (cs_ret ce_bl)) css_nil)
      (css_one (cs_ret (ce_cmp (op_eqA hr.units) (eqF_ok Z.hK) eqF_two (cf_lcE (cf_lc (own := [("_law_k", 2)]) rfl sc__law_alike.nd (ci_range1 (by rfl) Z.g_range (ca_cons (ce_callB call_len (lenF_ok Z.hK) (by rfl) Z.g_len (by decide +kernel) (ca_cons (ce_var (pv 1)) ca_nil)) ca_nil)) (blkE (N2 := N__law_alike) (sc2 := defScope st__law_alike) rfl rfl ⟨rfl, by decide +kernel, by decide +kernel, by decide +kernel, by decide +kernel⟩) (fun _ _ _ _ _ => (cg_name (pg_name (i := 2) sc__law_alike.nd rfl (by first | exact Or.inl rfl | exact Or.inr rfl)))) (fun _ _ _ _ _ => (cts_one (ct_notF (ct_truth (ce_call ih hr (by rfl) Z.m__law_alike Z.k__law_alike B (ca_cons (ce_ix ix_seq (ixF_ok Z.hK) ixF_two (ce_var (pv 0)) (ce_var (pv 2)) (fun _ _ => rfl)) (ca_cons (ce_ix ix_seq (ixF_ok Z.hK) ixF_two (ce_var (pv 1)) (ce_var (pv 2)) (fun _ _ => rfl)) ca_nil)) rfl) Z.hK (by intro _; rfl))))) (fun _ _ _ _ _ => (ce_var (pv 2))) (by decide))) (ce_lst ca_nil) (by rfl)))))) css_nil)
    (css_cons (cs_if (cw_or (ct_cmp op_isN isNF_ok isNF_two isNF_boo (ce_var (pv 1)) ce_non (by rfl)) (cw_or1 (ct_truth (ce_isi Z.hK (T := .str) (fun q => pe_callB call_isi (by rfl) Z.g_isinstance (by decide +kernel) (pa_cons q (pa_cons (pe_bltn (v := .ty "str") (by rfl) Z.g_str (by decide +kernel) rfl) pa_nil))) (ce_var (pv 1))) Z.hK (by intro _; rfl)))).pt (css_one (cs_ret (ce_and (ce_cmp (op_eqA hr.units) (eqF_ok Z.hK) eqF_two (ce_var (pv 0)) (ce_var (pv 1)) (by rfl)) (ce_one (ce_cmp (op_eqA hr.units) (eqF_ok Z.hK) eqF_two (ce_isi Z.hK (T := .str) (fun q => pe_callB call_isi (by rfl) Z.g_isinstance (by decide +kernel) (pa_cons q (pa_cons (pe_bltn (v := .ty "str") (by rfl) Z.g_str (by decide +kernel) rfl) pa_nil))) (ce_var (pv 0))) (ce_isi Z.hK (T := .str) (fun q => pe_callB call_isi (by rfl) Z.g_isinstance (by decide +kernel) (pa_cons q (pa_cons (pe_bltn (v := .ty "str") (by rfl) Z.g_str (by decide +kernel) rfl) pa_nil))) (ce_var (pv 1))) (by rfl)) pe_one) Z.hK))) css_nil)
    (css_one (cs_ret (ce_and (ce_isi Z.hK (T := .int) (fun q => pe_callB call_isi (by rfl) Z.g_isinstance (by decide +kernel) (pa_cons q (pa_cons (pe_bltn (v := .ty "int") (by rfl) Z.g_int (by decide +kernel) rfl) pa_nil))) (ce_var (pv 0))) (ce_and (ce_cmp (op_eqA hr.units) (eqF_ok Z.hK) eqF_two (ce_isi Z.hK (T := .bool) (fun q => pe_callB call_isi (by rfl) Z.g_isinstance (by decide +kernel) (pa_cons q (pa_cons (pe_bltn (v := .ty "bool") (by rfl) Z.g_bool (by decide +kernel) rfl) pa_nil))) (ce_var (pv 0))) (ce_isi Z.hK (T := .bool) (fun q => pe_callB call_isi (by rfl) Z.g_isinstance (by decide +kernel) (pa_cons q (pa_cons (pe_bltn (v := .ty "bool") (by rfl) Z.g_bool (by decide +kernel) rfl) pa_nil))) (ce_var (pv 1))) (by rfl)) (ce_one (ce_cmp (op_eqA hr.units) (eqF_ok Z.hK) eqF_two (ce_var (pv 0)) (ce_var (pv 1)) (by rfl)) pe_one) Z.hK) Z.hK)))))
theorem c__law_alike {P : Program} {w : World} {K : Frag} {mg : Str → Option Value} {base : Heap} {C : Cfg} (Z : Fx K mg base C) : ∃ fd, FnOk P w K mg base CX0 8 (He.ga K "_law_alike") fd ["_law_found", "_law_due"] (spI C 2 (φ__law_alike 6)) ∧ Binds K fd ["_law_found", "_law_due"] [] := by
  obtain ⟨fd, F⟩ := Z.f__law_alike
  have B : Binds K fd ["_law_found", "_law_due"] [] := F.bindsN fun _ _ _ _ _ _ us hl => match us, hl with | [_, _], _ => rfl
  refine ⟨fd, ?_, B⟩
  have key : ∀ t : Nat, FnOk P w K mg base CX0 (1 + t) (He.ga K "_law_alike") fd ["_law_found", "_law_due"] (spI C 2 (φ__law_alike t)) := fun t => by
    induction t with
    | zero => exact fnI_none
    | succ t ih => exact fnI_of F sc__law_alike Z.hK fun cdv A outer s0 H E hcd hr => d__law_alike Z  B (by omega) ih hr
  exact (key 6).mono (by decide)
abbrev st_is_memory : Stmt := top 9
def N_is_memory : List Str := ["value"]
theorem sc_is_memory : FnScope N_is_memory ["value"] (defScope st_is_memory) := ⟨rfl, rfl, rfl, by decide +kernel, rfl, by decide +kernel, by decide +kernel⟩
theorem d_is_memory {P : Program} {w : World} {K : Frag} {mg : Str → Option Value} {base : Heap} {C : Cfg} (Z : Fx K mg base C)  {A : Around} {outer : List Env} {s0 : Shared} {H : Hp} {E : XK} (hr : Room 1 (A.deeper (envOfC "is_memory" (defScope st_is_memory) s0.heap.objs.size (He.ga K "is_memory") (.ref (He.codeOf K ("is_memory", none)))))) :
    PSs (cxOf CX0 P w K mg base N_is_memory "is_memory" (defScope st_is_memory) (He.ga K "is_memory") (.ref (He.codeOf K ("is_memory", none))) A outer s0 H E).nox (defBody st_is_memory) (tS C s_is_memory) :=
  (css_cons (cs_if (cw_or (ct_notF (ct_truth (ce_isi Z.hK (T := .str) (fun q => pe_callB call_isi (by rfl) Z.g_isinstance (by decide +kernel) (pa_cons q (pa_cons (pe_bltn (v := .ty "str") (by rfl) Z.g_str (by decide +kernel) rfl) pa_nil))) (ce_var (pv 0))) Z.hK (by intro _; rfl))) (cw_or1 (ct_notF (ct_chain op_leA op_leA cmpF_ok cmpF_ok cmpF_boo ce_int (ce_callB call_len (lenF_ok Z.hK) (by rfl) Z.g_len (by decide +kernel) (ca_cons (ce_var (pv 0)) ca_nil)) (ce_globI (by rfl) Z.i_MOST_SPAN))))).pt (css_one (cs_ret ce_bl)) css_nil)
    (css_one (cs_ret (ce_allS (fun q => pe_allS hr (by rfl) Z.g_all (by decide +kernel) Z.tb_is_memory rfl (genS_of rfl rfl (by decide +kernel) rfl rfl (by decide +kernel)) q (elt_in rfl rfl) (by intro _; rfl)) Z.tm_is_memory (ce_var (pv 0))))))
theorem c_is_memory {P : Program} {w : World} {K : Frag} {mg : Str → Option Value} {base : Heap} {C : Cfg} (Z : Fx K mg base C) : ∃ fd, FnOk P w K mg base CX0 2 (He.ga K "is_memory") fd ["value"] (spI C 1 φ_is_memory) ∧ Binds K fd ["value"] [] := by
  obtain ⟨fd, F⟩ := Z.f_is_memory
  refine ⟨fd, ?_, F.bindsN fun _ _ _ _ _ _ us hl => match us, hl with | [_], _ => rfl⟩
  exact fnI_of F sc_is_memory Z.hK (fun cdv A outer s0 H E hcd hr => by
    obtain ⟨_, _, _, _, _, _, _, _, _, _, _, lk, _⟩ := F.ex
    have e := (hcd _ _ _ _ lk).symm.trans (Z.tc_is_memory _ _ _ _ lk)
    subst e
    exact d_is_memory Z  hr)
abbrev st_need_memory : Stmt := top 10
def N_need_memory : List Str := ["memory"]
theorem sc_need_memory : FnScope N_need_memory ["memory"] (defScope st_need_memory) := ⟨rfl, rfl, rfl, by decide +kernel, rfl, by decide +kernel, by decide +kernel⟩
theorem d_need_memory {P : Program} {w : World} {K : Frag} {mg : Str → Option Value} {base : Heap} {C : Cfg} (Z : Fx K mg base C) {fd_is_memory : FuncData} (F_is_memory : FnOk P w K mg base CX0 2 (He.ga K "is_memory") fd_is_memory ["value"] (spI C 1 φ_is_memory)) (B_is_memory : Binds K fd_is_memory ["value"] []) {cdv : Value} {A : Around} {outer : List Env} {s0 : Shared} {H : Hp} {E : XK} (hr : Room 2 (A.deeper (envOfC "need_memory" (defScope st_need_memory) s0.heap.objs.size (He.ga K "need_memory") (cdv)))) :
    PSs (cxOf CX0 P w K mg base N_need_memory "need_memory" (defScope st_need_memory) (He.ga K "need_memory") (cdv) A outer s0 H E).nox (defBody st_need_memory) (tS C s_need_memory) :=
  (css_one (cs_if (ct_notF (ct_truth (ce_call (F_is_memory.mono (by decide)) hr (by rfl) Z.m_is_memory Z.k_is_memory B_is_memory (ca_cons (ce_var (pv 0)) ca_nil) rfl) Z.hK (by intro _; rfl))) (css_one cs_never) css_nil))
theorem c_need_memory {P : Program} {w : World} {K : Frag} {mg : Str → Option Value} {base : Heap} {C : Cfg} (Z : Fx K mg base C) : ∃ fd, FnOk P w K mg base CX0 3 (He.ga K "need_memory") fd ["memory"] (spI C 1 φ_need_memory) ∧ Binds K fd ["memory"] [] := by
  obtain ⟨fd, F⟩ := Z.f_need_memory
  obtain ⟨fd_is_memory, F_is_memory, B_is_memory⟩ := c_is_memory (P := P) (w := w) Z
  refine ⟨fd, ?_, F.bindsN fun _ _ _ _ _ _ us hl => match us, hl with | [_], _ => rfl⟩
  exact fnI_of F sc_need_memory Z.hK (fun cdv A outer s0 H E hcd hr => d_need_memory Z F_is_memory B_is_memory hr)
abbrev st_is_input : Stmt := top 11
def N_is_input : List Str := ["value"]
theorem sc_is_input : FnScope N_is_input ["value"] (defScope st_is_input) := ⟨rfl, rfl, rfl, by decide +kernel, rfl, by decide +kernel, by decide +kernel⟩
theorem d_is_input {P : Program} {w : World} {K : Frag} {mg : Str → Option Value} {base : Heap} {C : Cfg} (Z : Fx K mg base C)  {A : Around} {outer : List Env} {s0 : Shared} {H : Hp} {E : XK} (hr : Room 1 (A.deeper (envOfC "is_input" (defScope st_is_input) s0.heap.objs.size (He.ga K "is_input") (.ref (He.codeOf K ("is_input", none)))))) :
    PSs (cxOf CX0 P w K mg base N_is_input "is_input" (defScope st_is_input) (He.ga K "is_input") (.ref (He.codeOf K ("is_input", none))) A outer s0 H E).nox (defBody st_is_input) (tS C s_is_input) :=
  (css_cons (cs_if (cw_or (ct_notF (ct_truth (ce_isi Z.hK (T := .str) (fun q => pe_callB call_isi (by rfl) Z.g_isinstance (by decide +kernel) (pa_cons q (pa_cons (pe_bltn (v := .ty "str") (by rfl) Z.g_str (by decide +kernel) rfl) pa_nil))) (ce_var (pv 0))) Z.hK (by intro _; rfl))) (cw_or1 (ct_cmp op_gtA cmpF_ok cmpF_two cmpF_boo (ce_callB call_len (lenF_ok Z.hK) (by rfl) Z.g_len (by decide +kernel) (ca_cons (ce_var (pv 0)) ca_nil)) (ce_globI (by rfl) Z.i_MOST_STEPS) (by rfl)))).pt (css_one (cs_ret ce_bl)) css_nil)
    (css_one (cs_ret (ce_allS (fun q => pe_allS hr (by rfl) Z.g_all (by decide +kernel) Z.tb_is_input rfl (genS_of rfl rfl (by decide +kernel) rfl rfl (by decide +kernel)) q (elt_in rfl rfl) (by intro _; rfl)) Z.tm_is_input (ce_var (pv 0))))))
theorem c_is_input {P : Program} {w : World} {K : Frag} {mg : Str → Option Value} {base : Heap} {C : Cfg} (Z : Fx K mg base C) : ∃ fd, FnOk P w K mg base CX0 2 (He.ga K "is_input") fd ["value"] (spI C 1 φ_is_input) ∧ Binds K fd ["value"] [] := by
  obtain ⟨fd, F⟩ := Z.f_is_input
  refine ⟨fd, ?_, F.bindsN fun _ _ _ _ _ _ us hl => match us, hl with | [_], _ => rfl⟩
  exact fnI_of F sc_is_input Z.hK (fun cdv A outer s0 H E hcd hr => by
    obtain ⟨_, _, _, _, _, _, _, _, _, _, _, lk, _⟩ := F.ex
    have e := (hcd _ _ _ _ lk).symm.trans (Z.tc_is_input _ _ _ _ lk)
    subst e
    exact d_is_input Z  hr)
abbrev st_need_input : Stmt := top 12
def N_need_input : List Str := ["steps"]
theorem sc_need_input : FnScope N_need_input ["steps"] (defScope st_need_input) := ⟨rfl, rfl, rfl, by decide +kernel, rfl, by decide +kernel, by decide +kernel⟩
theorem d_need_input {P : Program} {w : World} {K : Frag} {mg : Str → Option Value} {base : Heap} {C : Cfg} (Z : Fx K mg base C) {fd_is_input : FuncData} (F_is_input : FnOk P w K mg base CX0 2 (He.ga K "is_input") fd_is_input ["value"] (spI C 1 φ_is_input)) (B_is_input : Binds K fd_is_input ["value"] []) {cdv : Value} {A : Around} {outer : List Env} {s0 : Shared} {H : Hp} {E : XK} (hr : Room 2 (A.deeper (envOfC "need_input" (defScope st_need_input) s0.heap.objs.size (He.ga K "need_input") (cdv)))) :
    PSs (cxOf CX0 P w K mg base N_need_input "need_input" (defScope st_need_input) (He.ga K "need_input") (cdv) A outer s0 H E).nox (defBody st_need_input) (tS C s_need_input) :=
  (css_one (cs_if (ct_notF (ct_truth (ce_call (F_is_input.mono (by decide)) hr (by rfl) Z.m_is_input Z.k_is_input B_is_input (ca_cons (ce_var (pv 0)) ca_nil) rfl) Z.hK (by intro _; rfl))) (css_one cs_never) css_nil))
theorem c_need_input {P : Program} {w : World} {K : Frag} {mg : Str → Option Value} {base : Heap} {C : Cfg} (Z : Fx K mg base C) : ∃ fd, FnOk P w K mg base CX0 3 (He.ga K "need_input") fd ["steps"] (spI C 1 φ_need_input) ∧ Binds K fd ["steps"] [] := by
  obtain ⟨fd, F⟩ := Z.f_need_input
  obtain ⟨fd_is_input, F_is_input, B_is_input⟩ := c_is_input (P := P) (w := w) Z
  refine ⟨fd, ?_, F.bindsN fun _ _ _ _ _ _ us hl => match us, hl with | [_], _ => rfl⟩
  exact fnI_of F sc_need_input Z.hK (fun cdv A outer s0 H E hcd hr => d_need_input Z F_is_input B_is_input hr)
abbrev st_step : Stmt := top 14
def N_step : List Str := ["memory", "letter", "old", "new", "at"]
theorem sc_step : FnScope N_step ["memory", "letter"] (defScope st_step) := ⟨rfl, rfl, rfl, by decide +kernel, rfl, by decide +kernel, by decide +kernel⟩
theorem d_step {P : Program} {w : World} {K : Frag} {mg : Str → Option Value} {base : Heap} {C : Cfg} (Z : Fx K mg base C)  {cdv : Value} {A : Around} {outer : List Env} {s0 : Shared} {H : Hp} {E : XK} (hr : Room 1 (A.deeper (envOfC "step" (defScope st_step) s0.heap.objs.size (He.ga K "step") (cdv)))) :
    PSs (cxOf CX0 P w K mg base N_step "step" (defScope st_step) (He.ga K "step") (cdv) A outer s0 H E).nox (defBody st_step) (tS C s_step) :=
  (css_cons (cs_asg (ce_ite (ct_cmp (op_eqA hr.units) (eqF_ok Z.hK) eqF_two eqF_boo (ce_var (pv 1)) (ce_str (by rfl)) (by rfl)) (ce_tup (ca_cons (ce_str (by rfl)) (ca_cons (ce_str (by rfl)) ca_nil))) (ce_tup (ca_cons (ce_str (by rfl)) (ca_cons (ce_str (by rfl)) ca_nil)))) (cg_tup rfl Z.hK (cgs_cons (cg_name (pg_name (i := 2) sc_step.nd rfl (by first | exact Or.inl rfl | exact Or.inr rfl))) (cgs_cons (cg_name (pg_name (i := 3) sc_step.nd rfl (by first | exact Or.inl rfl | exact Or.inr rfl))) cgs_nil)) rfl))
    (css_cons (cs_name (fun q => ps_set (i := 4) sc_step.nd rfl (by first | exact Or.inl rfl | exact Or.inr rfl) q) (ce_strm rfindF_ok rfindF_str (fun q qa => pe_bm PySem.F.plainAttrs_str PySem.F.slot_str_rfind PySem.F.type_str_rfind mt_rfind q qa) (ce_var (pv 0)) (ca_cons (ce_var (pv 2)) ca_nil)))
    (css_one (cs_ret (ce_ite (ct_cmp op_ltA cmpF_ok cmpF_two cmpF_boo (ce_var (pv 4)) ce_int (by rfl)) (ce_var (pv 0)) (ce_bin op_addA (addF_ok Z.hK) addF_two (ce_bin op_addA (addF_ok Z.hK) addF_two (ce_sl2 Z.hK (ce_var (pv 0)) (ce_var (pv 4))) (ce_var (pv 3))) (ce_sl1 Z.hK (ce_var (pv 0)) (ce_bin op_addA (addF_ok Z.hK) addF_two (ce_var (pv 4)) ce_int))))))))
theorem c_step {P : Program} {w : World} {K : Frag} {mg : Str → Option Value} {base : Heap} {C : Cfg} (Z : Fx K mg base C) : ∃ fd, FnOk P w K mg base CX0 2 (He.ga K "step") fd ["memory", "letter"] (spI C 2 φ_step) ∧ Binds K fd ["memory", "letter"] [] := by
  obtain ⟨fd, F⟩ := Z.f_step
  refine ⟨fd, ?_, F.bindsN fun _ _ _ _ _ _ us hl => match us, hl with | [_, _], _ => rfl⟩
  exact fnI_of F sc_step Z.hK (fun cdv A outer s0 H E hcd hr => d_step Z  hr)
abbrev st_behind : Stmt := top 15
def N_behind : List Str := ["memory", "steps", "letter"]
theorem sc_behind : FnScope N_behind ["memory", "steps"] (defScope st_behind) := ⟨rfl, rfl, rfl, by decide +kernel, rfl, by decide +kernel, by decide +kernel⟩
theorem d_behind {P : Program} {w : World} {K : Frag} {mg : Str → Option Value} {base : Heap} {C : Cfg} (Z : Fx K mg base C) {fd_step : FuncData} (F_step : FnOk P w K mg base CX0 2 (He.ga K "step") fd_step ["memory", "letter"] (spI C 2 φ_step)) (B_step : Binds K fd_step ["memory", "letter"] []) {cdv : Value} {A : Around} {outer : List Env} {s0 : Shared} {H : Hp} {E : XK} (hr : Room 2 (A.deeper (envOfC "behind" (defScope st_behind) s0.heap.objs.size (He.ga K "behind") (cdv)))) :
    PSs (cxOf CX0 P w K mg base N_behind "behind" (defScope st_behind) (He.ga K "behind") (cdv) A outer s0 H E).nox (defBody st_behind) (tS C s_behind) :=
  (css_cons (cs_for PassesOwn.never rfl (ci_any Z.hK (ce_var (pv 1))) (cg_name (pg_name (i := 2) sc_behind.nd rfl (by first | exact Or.inl rfl | exact Or.inr rfl))) (css_one (cs_name (fun q => ps_set (i := 0) sc_behind.nd rfl (by first | exact Or.inl rfl | exact Or.inr rfl) q) (ce_call (F_step.mono (by decide)) hr (by rfl) Z.m_step Z.k_step B_step (ca_cons (ce_var (pv 0)) (ca_cons (ce_var (pv 2)) ca_nil)) rfl))))
    (css_one (cs_ret (ce_var (pv 0)))))
theorem c_behind {P : Program} {w : World} {K : Frag} {mg : Str → Option Value} {base : Heap} {C : Cfg} (Z : Fx K mg base C) : ∃ fd, FnOk P w K mg base CX0 3 (He.ga K "behind") fd ["memory", "steps"] (spI C 2 φ_behind) ∧ Binds K fd ["memory", "steps"] [] := by
  obtain ⟨fd, F⟩ := Z.f_behind
  obtain ⟨fd_step, F_step, B_step⟩ := c_step (P := P) (w := w) Z
  refine ⟨fd, ?_, F.bindsN fun _ _ _ _ _ _ us hl => match us, hl with | [_, _], _ => rfl⟩
  exact fnI_of F sc_behind Z.hK (fun cdv A outer s0 H E hcd hr => d_behind Z F_step B_step hr)
abbrev st_after : Stmt := top 16
def N_after : List Str := ["memory", "steps"]
theorem sc_after : FnScope N_after ["memory", "steps"] (defScope st_after) := ⟨rfl, rfl, rfl, by decide +kernel, rfl, by decide +kernel, by decide +kernel⟩
theorem d_after {P : Program} {w : World} {K : Frag} {mg : Str → Option Value} {base : Heap} {C : Cfg} (Z : Fx K mg base C) {fd_need_memory : FuncData} (F_need_memory : FnOk P w K mg base CX0 3 (He.ga K "need_memory") fd_need_memory ["memory"] (spI C 1 φ_need_memory)) (B_need_memory : Binds K fd_need_memory ["memory"] []) {fd_need_input : FuncData} (F_need_input : FnOk P w K mg base CX0 3 (He.ga K "need_input") fd_need_input ["steps"] (spI C 1 φ_need_input)) (B_need_input : Binds K fd_need_input ["steps"] []) {fd_behind : FuncData} (F_behind : FnOk P w K mg base CX0 3 (He.ga K "behind") fd_behind ["memory", "steps"] (spI C 2 φ_behind)) (B_behind : Binds K fd_behind ["memory", "steps"] []) {cdv : Value} {A : Around} {outer : List Env} {s0 : Shared} {H : Hp} {E : XK} (hr : Room 3 (A.deeper (envOfC "after" (defScope st_after) s0.heap.objs.size (He.ga K "after") (cdv)))) :
    PSs (cxOf CX0 P w K mg base N_after "after" (defScope st_after) (He.ga K "after") (cdv) A outer s0 H E).nox (defBody st_after) (tS C s_after) :=
  (css_cons (cs_exp (ce_call (F_need_memory.mono (by decide)) hr (by rfl) Z.m_need_memory Z.k_need_memory B_need_memory (ca_cons (ce_var (pv 0)) ca_nil) rfl))
    (css_cons (cs_exp (ce_call (F_need_input.mono (by decide)) hr (by rfl) Z.m_need_input Z.k_need_input B_need_input (ca_cons (ce_var (pv 1)) ca_nil) rfl))
    (css_one (cs_ret (ce_call (F_behind.mono (by decide)) hr (by rfl) Z.m_behind Z.k_behind B_behind (ca_cons (ce_var (pv 0)) (ca_cons (ce_var (pv 1)) ca_nil)) rfl)))))
theorem c_after {P : Program} {w : World} {K : Frag} {mg : Str → Option Value} {base : Heap} {C : Cfg} (Z : Fx K mg base C) : ∃ fd, FnOk P w K mg base CX0 4 (He.ga K "after") fd ["memory", "steps"] (spI C 2 φ_after) ∧ Binds K fd ["memory", "steps"] [] := by
  obtain ⟨fd, F⟩ := Z.f_after
  obtain ⟨fd_need_memory, F_need_memory, B_need_memory⟩ := c_need_memory (P := P) (w := w) Z
  obtain ⟨fd_need_input, F_need_input, B_need_input⟩ := c_need_input (P := P) (w := w) Z
  obtain ⟨fd_behind, F_behind, B_behind⟩ := c_behind (P := P) (w := w) Z
  refine ⟨fd, ?_, F.bindsN fun _ _ _ _ _ _ us hl => match us, hl with | [_, _], _ => rfl⟩
  exact fnI_of F sc_after Z.hK (fun cdv A outer s0 H E hcd hr => d_after Z F_need_memory B_need_memory F_need_input B_need_input F_behind B_behind hr)
abbrev st__law_step : Stmt := top 23
def N__law_step : List Str := ["_law_memory_here", "_law_letter", "_law_old", "_law_new", "_law_at"]
theorem sc__law_step : FnScope N__law_step ["_law_memory_here", "_law_letter"] (defScope st__law_step) := ⟨rfl, rfl, rfl, by decide +kernel, rfl, by decide +kernel, by decide +kernel⟩
theorem d__law_step {P : Program} {w : World} {K : Frag} {mg : Str → Option Value} {base : Heap} {C : Cfg} (Z : Fx K mg base C)  {cdv : Value} {A : Around} {outer : List Env} {s0 : Shared} {H : Hp} {E : XK} (hr : Room 1 (A.deeper (envOfC "_law_step" (defScope st__law_step) s0.heap.objs.size (He.ga K "_law_step") (cdv)))) :
    PSs (cxOf CX0 P w K mg base N__law_step "_law_step" (defScope st__law_step) (He.ga K "_law_step") (cdv) A outer s0 H E).nox (defBody st__law_step) (tS C s__law_step) :=
  (css_cons (cs_asg (ce_ite (ct_cmp (op_eqA hr.units) (eqF_ok Z.hK) eqF_two eqF_boo (ce_var (pv 1)) (ce_str (by rfl)) (by rfl)) (ce_tup (ca_cons (ce_str (by rfl)) (ca_cons (ce_str (by rfl)) ca_nil))) (ce_tup (ca_cons (ce_str (by rfl)) (ca_cons (ce_str (by rfl)) ca_nil)))) (cg_tup rfl Z.hK (cgs_cons (cg_name (pg_name (i := 2) sc__law_step.nd rfl (by first | exact Or.inl rfl | exact Or.inr rfl))) (cgs_cons (cg_name (pg_name (i := 3) sc__law_step.nd rfl (by first | exact Or.inl rfl | exact Or.inr rfl))) cgs_nil)) rfl))
    (css_cons (cs_for PassesOwn.never rfl (ci_rangeD (by rfl) Z.g_range (ca_cons (ce_bin op_sub subF_ok subF_two (ce_callB call_len (lenF_ok Z.hK) (by rfl) Z.g_len (by decide +kernel) (ca_cons (ce_var (pv 0)) ca_nil)) ce_int) (ca_cons (ce_un un_neg negF_ok ce_int) (ca_cons (ce_un un_neg negF_ok ce_int) ca_nil))) (pi_range3 (by rfl) Z.g_range (ca_cons (ce_bin op_sub subF_ok subF_two (ce_callB call_len (lenF_ok Z.hK) (by rfl) Z.g_len (by decide +kernel) (ca_cons (ce_var (pv 0)) ca_nil)) ce_int) (ca_cons (ce_un un_neg negF_ok ce_int) (ca_cons (ce_un un_neg negF_ok ce_int) ca_nil))))) (cg_name (pg_name (i := 4) sc__law_step.nd rfl (by first | exact Or.inl rfl | exact Or.inr rfl))) (css_one (cs_if (ct_cmp (op_eqA hr.units) (eqF_ok Z.hK) eqF_two eqF_boo (ce_ix ix_seq (ixF_ok Z.hK) ixF_two (ce_var (pv 0)) (ce_var (pv 4)) (fun _ _ => rfl)) (ce_var (pv 2)) (by rfl)) (css_one (cs_ret (ce_bin op_addA (addF_ok Z.hK) addF_two (ce_bin op_addA (addF_ok Z.hK) addF_two (ce_sl2 Z.hK (ce_var (pv 0)) (ce_var (pv 4))) (ce_var (pv 3))) (ce_sl1 Z.hK (ce_var (pv 0)) (ce_bin op_addA (addF_ok Z.hK) addF_two (ce_var (pv 4)) ce_int))))) css_nil)))
    (css_one (cs_ret (ce_var (pv 0))))))
theorem c__law_step {P : Program} {w : World} {K : Frag} {mg : Str → Option Value} {base : Heap} {C : Cfg} (Z : Fx K mg base C) : ∃ fd, FnOk P w K mg base CX0 2 (He.ga K "_law_step") fd ["_law_memory_here", "_law_letter"] (spI C 2 φ__law_step) ∧ Binds K fd ["_law_memory_here", "_law_letter"] [] := by
  obtain ⟨fd, F⟩ := Z.f__law_step
  refine ⟨fd, ?_, F.bindsN fun _ _ _ _ _ _ us hl => match us, hl with | [_, _], _ => rfl⟩
  exact fnI_of F sc__law_step Z.hK (fun cdv A outer s0 H E hcd hr => d__law_step Z  hr)
abbrev st__law_behind : Stmt := top 24
def N__law_behind : List Str := ["_law_memory_here", "_law_steps_here", "_law_letter"]
theorem sc__law_behind : FnScope N__law_behind ["_law_memory_here", "_law_steps_here"] (defScope st__law_behind) := ⟨rfl, rfl, rfl, by decide +kernel, rfl, by decide +kernel, by decide +kernel⟩
theorem d__law_behind {P : Program} {w : World} {K : Frag} {mg : Str → Option Value} {base : Heap} {C : Cfg} (Z : Fx K mg base C) {fd__law_step : FuncData} (F__law_step : FnOk P w K mg base CX0 2 (He.ga K "_law_step") fd__law_step ["_law_memory_here", "_law_letter"] (spI C 2 φ__law_step)) (B__law_step : Binds K fd__law_step ["_law_memory_here", "_law_letter"] []) {cdv : Value} {A : Around} {outer : List Env} {s0 : Shared} {H : Hp} {E : XK} (hr : Room 2 (A.deeper (envOfC "_law_behind" (defScope st__law_behind) s0.heap.objs.size (He.ga K "_law_behind") (cdv)))) :
    PSs (cxOf CX0 P w K mg base N__law_behind "_law_behind" (defScope st__law_behind) (He.ga K "_law_behind") (cdv) A outer s0 H E).nox (defBody st__law_behind) (tS C s__law_behind) :=
  (css_cons (cs_for PassesOwn.never rfl (ci_any Z.hK (ce_var (pv 1))) (cg_name (pg_name (i := 2) sc__law_behind.nd rfl (by first | exact Or.inl rfl | exact Or.inr rfl))) (css_one (cs_name (fun q => ps_set (i := 0) sc__law_behind.nd rfl (by first | exact Or.inl rfl | exact Or.inr rfl) q) (ce_call (F__law_step.mono (by decide)) hr (by rfl) Z.m__law_step Z.k__law_step B__law_step (ca_cons (ce_var (pv 0)) (ca_cons (ce_var (pv 2)) ca_nil)) rfl))))
    (css_one (cs_ret (ce_var (pv 0)))))
theorem c__law_behind {P : Program} {w : World} {K : Frag} {mg : Str → Option Value} {base : Heap} {C : Cfg} (Z : Fx K mg base C) : ∃ fd, FnOk P w K mg base CX0 3 (He.ga K "_law_behind") fd ["_law_memory_here", "_law_steps_here"] (spI C 2 φ__law_behind) ∧ Binds K fd ["_law_memory_here", "_law_steps_here"] [] := by
  obtain ⟨fd, F⟩ := Z.f__law_behind
  obtain ⟨fd__law_step, F__law_step, B__law_step⟩ := c__law_step (P := P) (w := w) Z
  refine ⟨fd, ?_, F.bindsN fun _ _ _ _ _ _ us hl => match us, hl with | [_, _], _ => rfl⟩
  exact fnI_of F sc__law_behind Z.hK (fun cdv A outer s0 H E hcd hr => d__law_behind Z F__law_step B__law_step hr)
abbrev st_heights : Stmt := top 17
def N_heights : List Str := ["memory", "steps", "found", "letter"]
theorem sc_heights : FnScope N_heights ["memory", "steps"] (defScope st_heights) := ⟨rfl, rfl, rfl, by decide +kernel, rfl, by decide +kernel, by decide +kernel⟩
theorem d_heights {P : Program} {w : World} {K : Frag} {mg : Str → Option Value} {base : Heap} {C : Cfg} (Z : Fx K mg base C) {fd_need_memory : FuncData} (F_need_memory : FnOk P w K mg base CX0 3 (He.ga K "need_memory") fd_need_memory ["memory"] (spI C 1 φ_need_memory)) (B_need_memory : Binds K fd_need_memory ["memory"] []) {fd_need_input : FuncData} (F_need_input : FnOk P w K mg base CX0 3 (He.ga K "need_input") fd_need_input ["steps"] (spI C 1 φ_need_input)) (B_need_input : Binds K fd_need_input ["steps"] []) {fd_step : FuncData} (F_step : FnOk P w K mg base CX0 2 (He.ga K "step") fd_step ["memory", "letter"] (spI C 2 φ_step)) (B_step : Binds K fd_step ["memory", "letter"] []) {cdv : Value} {A : Around} {outer : List Env} {s0 : Shared} {H : Hp} {E : XK} (hr : Room 3 (A.deeper (envOfC "heights" (defScope st_heights) s0.heap.objs.size (He.ga K "heights") (cdv)))) :
    PSs (cxOf CX0 P w K mg base N_heights "heights" (defScope st_heights) (He.ga K "heights") (cdv) A outer s0 H E).nox (defBody st_heights) (tS C s_heights) :=
  (css_cons (cs_exp (ce_call (F_need_memory.mono (by decide)) hr (by rfl) Z.m_need_memory Z.k_need_memory B_need_memory (ca_cons (ce_var (pv 0)) ca_nil) rfl))
    (css_cons (cs_exp (ce_call (F_need_input.mono (by decide)) hr (by rfl) Z.m_need_input Z.k_need_input B_need_input (ca_cons (ce_var (pv 1)) ca_nil) rfl))
    (css_cons (cs_nameO (fun q => ps_set (i := 2) sc_heights.nd rfl (by first | exact Or.inl rfl | exact Or.inr rfl) q) (cf_lst (ca_cons (ce_strm countF_ok countF_str (fun q qa => pe_bm PySem.F.plainAttrs_str PySem.F.slot_str_count PySem.F.type_str_count mt_count q qa) (ce_var (pv 0)) (ca_cons (ce_str (by rfl)) ca_nil)) ca_nil)))
    (css_cons (cs_for PassesOwn.never rfl (ci_any Z.hK (ce_var (pv 1))) (cg_name (pg_name (i := 3) sc_heights.nd rfl (by first | exact Or.inl rfl | exact Or.inr rfl))) (css_cons (cs_name (fun q => ps_set (i := 0) sc_heights.nd rfl (by first | exact Or.inl rfl | exact Or.inr rfl) q) (ce_call (F_step.mono (by decide)) hr (by rfl) Z.m_step Z.k_step B_step (ca_cons (ce_var (pv 0)) (ca_cons (ce_var (pv 3)) ca_nil)) rfl))
      (css_one (cs_app (fun q => ps_expr (pe_bm PySem.F.plainAttrs_list PySem.F.slot_list_append PySem.F.type_list_append mt_append (pv 2) (pa_cons q pa_nil))) Z.hK (ce_strm countF_ok countF_str (fun q qa => pe_bm PySem.F.plainAttrs_str PySem.F.slot_str_count PySem.F.type_str_count mt_count q qa) (ce_var (pv 0)) (ca_cons (ce_str (by rfl)) ca_nil))))))
    (css_one (cs_ret (ce_callTy call_tuple_of tupleF_ok (by rfl) Z.g_tuple (by decide +kernel) (ca_cons (ce_var (pv 2)) ca_nil))))))))
theorem c_heights {P : Program} {w : World} {K : Frag} {mg : Str → Option Value} {base : Heap} {C : Cfg} (Z : Fx K mg base C) : ∃ fd, FnOk P w K mg base CX0 4 (He.ga K "heights") fd ["memory", "steps"] (spI C 2 φ_heights) ∧ Binds K fd ["memory", "steps"] [] := by
  obtain ⟨fd, F⟩ := Z.f_heights
  obtain ⟨fd_need_memory, F_need_memory, B_need_memory⟩ := c_need_memory (P := P) (w := w) Z
  obtain ⟨fd_need_input, F_need_input, B_need_input⟩ := c_need_input (P := P) (w := w) Z
  obtain ⟨fd_step, F_step, B_step⟩ := c_step (P := P) (w := w) Z
  refine ⟨fd, ?_, F.bindsN fun _ _ _ _ _ _ us hl => match us, hl with | [_, _], _ => rfl⟩
  exact fnI_of F sc_heights Z.hK (fun cdv A outer s0 H E hcd hr => d_heights Z F_need_memory B_need_memory F_need_input B_need_input F_step B_step hr)
abbrev st_is_in : Stmt := top 8
def N_is_in : List Str := ["value", "least", "most"]
theorem sc_is_in : FnScope N_is_in ["value", "least", "most"] (defScope st_is_in) := ⟨rfl, rfl, rfl, by decide +kernel, rfl, by decide +kernel, by decide +kernel⟩
theorem d_is_in {P : Program} {w : World} {K : Frag} {mg : Str → Option Value} {base : Heap} {C : Cfg} (Z : Fx K mg base C)  {cdv : Value} {A : Around} {outer : List Env} {s0 : Shared} {H : Hp} {E : XK} (hr : Room 1 (A.deeper (envOfC "is_in" (defScope st_is_in) s0.heap.objs.size (He.ga K "is_in") (cdv)))) :
    PSs (cxOf CX0 P w K mg base N_is_in "is_in" (defScope st_is_in) (He.ga K "is_in") (cdv) A outer s0 H E).nox (defBody st_is_in) (tS C s_is_in) :=
  (css_one (cs_ret (ce_and (ce_isi Z.hK (T := .int) (fun q => pe_callB call_isi (by rfl) Z.g_isinstance (by decide +kernel) (pa_cons q (pa_cons (pe_bltn (v := .ty "int") (by rfl) Z.g_int (by decide +kernel) rfl) pa_nil))) (ce_var (pv 0))) (ce_and (ce_notF (ce_isi Z.hK (T := .bool) (fun q => pe_callB call_isi (by rfl) Z.g_isinstance (by decide +kernel) (pa_cons q (pa_cons (pe_bltn (v := .ty "bool") (by rfl) Z.g_bool (by decide +kernel) rfl) pa_nil))) (ce_var (pv 0))) Z.hK) (ce_one (ce_chain op_leA op_leA cmpF_ok cmpF_ok (ce_var (pv 1)) (ce_var (pv 0)) (ce_var (pv 2))) pe_one) Z.hK) Z.hK)))
theorem c_is_in {P : Program} {w : World} {K : Frag} {mg : Str → Option Value} {base : Heap} {C : Cfg} (Z : Fx K mg base C) : ∃ fd, FnOk P w K mg base CX0 2 (He.ga K "is_in") fd ["value", "least", "most"] (spI C 3 φ_is_in) ∧ Binds K fd ["value", "least", "most"] [] := by
  obtain ⟨fd, F⟩ := Z.f_is_in
  refine ⟨fd, ?_, F.bindsN fun _ _ _ _ _ _ us hl => match us, hl with | [_, _, _], _ => rfl⟩
  exact fnI_of F sc_is_in Z.hK (fun cdv A outer s0 H E hcd hr => d_is_in Z  hr)
abbrev st_need_span : Stmt := top 13
def N_need_span : List Str := ["span"]
theorem sc_need_span : FnScope N_need_span ["span"] (defScope st_need_span) := ⟨rfl, rfl, rfl, by decide +kernel, rfl, by decide +kernel, by decide +kernel⟩
theorem d_need_span {P : Program} {w : World} {K : Frag} {mg : Str → Option Value} {base : Heap} {C : Cfg} (Z : Fx K mg base C) {fd_is_in : FuncData} (F_is_in : FnOk P w K mg base CX0 2 (He.ga K "is_in") fd_is_in ["value", "least", "most"] (spI C 3 φ_is_in)) (B_is_in : Binds K fd_is_in ["value", "least", "most"] []) {cdv : Value} {A : Around} {outer : List Env} {s0 : Shared} {H : Hp} {E : XK} (hr : Room 2 (A.deeper (envOfC "need_span" (defScope st_need_span) s0.heap.objs.size (He.ga K "need_span") (cdv)))) :
    PSs (cxOf CX0 P w K mg base N_need_span "need_span" (defScope st_need_span) (He.ga K "need_span") (cdv) A outer s0 H E).nox (defBody st_need_span) (tS C s_need_span) :=
  (css_one (cs_if (ct_notF (ct_truth (ce_call (F_is_in.mono (by decide)) hr (by rfl) Z.m_is_in Z.k_is_in B_is_in (ca_cons (ce_var (pv 0)) (ca_cons ce_int (ca_cons (ce_globI (by rfl) Z.i_MOST_SPAN) ca_nil))) rfl) Z.hK (by intro _; rfl))) (css_one cs_never) css_nil))
theorem c_need_span {P : Program} {w : World} {K : Frag} {mg : Str → Option Value} {base : Heap} {C : Cfg} (Z : Fx K mg base C) : ∃ fd, FnOk P w K mg base CX0 3 (He.ga K "need_span") fd ["span"] (spI C 1 φ_need_span) ∧ Binds K fd ["span"] [] := by
  obtain ⟨fd, F⟩ := Z.f_need_span
  obtain ⟨fd_is_in, F_is_in, B_is_in⟩ := c_is_in (P := P) (w := w) Z
  refine ⟨fd, ?_, F.bindsN fun _ _ _ _ _ _ us hl => match us, hl with | [_], _ => rfl⟩
  exact fnI_of F sc_need_span Z.hK (fun cdv A outer s0 H E hcd hr => d_need_span Z F_is_in B_is_in hr)
abbrev st_lasting : Stmt := top 18
def N_lasting : List Str := ["span", "steps"]
theorem sc_lasting : FnScope N_lasting ["span", "steps"] (defScope st_lasting) := ⟨rfl, rfl, rfl, by decide +kernel, rfl, by decide +kernel, by decide +kernel⟩
theorem d_lasting {P : Program} {w : World} {K : Frag} {mg : Str → Option Value} {base : Heap} {C : Cfg} (Z : Fx K mg base C) {fd_need_span : FuncData} (F_need_span : FnOk P w K mg base CX0 3 (He.ga K "need_span") fd_need_span ["span"] (spI C 1 φ_need_span)) (B_need_span : Binds K fd_need_span ["span"] []) {fd_need_input : FuncData} (F_need_input : FnOk P w K mg base CX0 3 (He.ga K "need_input") fd_need_input ["steps"] (spI C 1 φ_need_input)) (B_need_input : Binds K fd_need_input ["steps"] []) {fd_behind : FuncData} (F_behind : FnOk P w K mg base CX0 3 (He.ga K "behind") fd_behind ["memory", "steps"] (spI C 2 φ_behind)) (B_behind : Binds K fd_behind ["memory", "steps"] []) {cdv : Value} {A : Around} {outer : List Env} {s0 : Shared} {H : Hp} {E : XK} (hr : Room 3 (A.deeper (envOfC "lasting" (defScope st_lasting) s0.heap.objs.size (He.ga K "lasting") (cdv)))) :
    PSs (cxOf CX0 P w K mg base N_lasting "lasting" (defScope st_lasting) (He.ga K "lasting") (cdv) A outer s0 H E).nox (defBody st_lasting) (tS C s_lasting) :=
  (css_cons (cs_exp (ce_call (F_need_span.mono (by decide)) hr (by rfl) Z.m_need_span Z.k_need_span B_need_span (ca_cons (ce_var (pv 0)) ca_nil) rfl))
    (css_cons (cs_exp (ce_call (F_need_input.mono (by decide)) hr (by rfl) Z.m_need_input Z.k_need_input B_need_input (ca_cons (ce_var (pv 1)) ca_nil) rfl))
    (css_one (cs_ret (ce_call (F_behind.mono (by decide)) hr (by rfl) Z.m_behind Z.k_behind B_behind (ca_cons (ce_bin op_mulA mulF_ok mulF_two (ce_str (by rfl)) (ce_var (pv 0))) (ca_cons (ce_var (pv 1)) ca_nil)) rfl)))))
theorem c_lasting {P : Program} {w : World} {K : Frag} {mg : Str → Option Value} {base : Heap} {C : Cfg} (Z : Fx K mg base C) : ∃ fd, FnOk P w K mg base CX0 4 (He.ga K "lasting") fd ["span", "steps"] (spI C 2 φ_lasting) ∧ Binds K fd ["span", "steps"] [] := by
  obtain ⟨fd, F⟩ := Z.f_lasting
  obtain ⟨fd_need_span, F_need_span, B_need_span⟩ := c_need_span (P := P) (w := w) Z
  obtain ⟨fd_need_input, F_need_input, B_need_input⟩ := c_need_input (P := P) (w := w) Z
  obtain ⟨fd_behind, F_behind, B_behind⟩ := c_behind (P := P) (w := w) Z
  refine ⟨fd, ?_, F.bindsN fun _ _ _ _ _ _ us hl => match us, hl with | [_, _], _ => rfl⟩
  exact fnI_of F sc_lasting Z.hK (fun cdv A outer s0 H E hcd hr => d_lasting Z F_need_span B_need_span F_need_input B_need_input F_behind B_behind hr)
abbrev st_law : Stmt := top 28
def N_law : List Str := ["_law_script", "_law_row", "_law_memory_here", "_law_steps_here", "_law_span", "_law_height", "_law_due", "_law_letter", "_law_at"]
theorem sc_law : FnScope N_law ["_law_script"] (defScope st_law) := ⟨rfl, rfl, rfl, by decide +kernel, rfl, by decide +kernel, by decide +kernel⟩
theorem d_law {P : Program} {w : World} {K : Frag} {mg : Str → Option Value} {base : Heap} {C : Cfg} (Z : Fx K mg base C) {fd__law_taken : FuncData} (F__law_taken : FnOk P w K mg base CX0 2 (He.ga K "_law_taken") fd__law_taken ["_law_row", "_law_many"] (spO C 2 φ__law_taken)) (B__law_taken : Binds K fd__law_taken ["_law_row", "_law_many"] []) {fd__law_memory : FuncData} (F__law_memory : FnOk P w K mg base CX0 4 (He.ga K "_law_memory") fd__law_memory ["_law_row", "_law_most"] (spO C 2 φ__law_memory)) (B__law_memory : Binds K fd__law_memory ["_law_row", "_law_most"] []) {fd__law_steps : FuncData} (F__law_steps : FnOk P w K mg base CX0 4 (He.ga K "_law_steps") fd__law_steps ["_law_row"] (spO C 1 φ__law_steps)) (B__law_steps : Binds K fd__law_steps ["_law_row"] []) {fd__law_alike : FuncData} (F__law_alike : FnOk P w K mg base CX0 8 (He.ga K "_law_alike") fd__law_alike ["_law_found", "_law_due"] (spI C 2 (φ__law_alike 6))) (B__law_alike : Binds K fd__law_alike ["_law_found", "_law_due"] []) {fd_after : FuncData} (F_after : FnOk P w K mg base CX0 4 (He.ga K "after") fd_after ["memory", "steps"] (spI C 2 φ_after)) (B_after : Binds K fd_after ["memory", "steps"] []) {fd__law_behind : FuncData} (F__law_behind : FnOk P w K mg base CX0 3 (He.ga K "_law_behind") fd__law_behind ["_law_memory_here", "_law_steps_here"] (spI C 2 φ__law_behind)) (B__law_behind : Binds K fd__law_behind ["_law_memory_here", "_law_steps_here"] []) {fd_heights : FuncData} (F_heights : FnOk P w K mg base CX0 4 (He.ga K "heights") fd_heights ["memory", "steps"] (spI C 2 φ_heights)) (B_heights : Binds K fd_heights ["memory", "steps"] []) {fd_lasting : FuncData} (F_lasting : FnOk P w K mg base CX0 4 (He.ga K "lasting") fd_lasting ["span", "steps"] (spI C 2 φ_lasting)) (B_lasting : Binds K fd_lasting ["span", "steps"] []) {cdv : Value} {A : Around} {outer : List Env} {s0 : Shared} {H : Hp} {E : XK} (hr : Room 8 (A.deeper (envOfC "law" (defScope st_law) s0.heap.objs.size (He.ga K "law") (cdv)))) :
    PSs (cxOf CX0 P w K mg base N_law "law" (defScope st_law) (He.ga K "law") (cdv) A outer s0 H E).nox (defBody st_law) (tS C s_law) :=
  (css_cons (cs_nameO (fun q => ps_set (i := 1) sc_law.nd rfl (by first | exact Or.inl rfl | exact Or.inr rfl) q) (cf_lst (ca_cons (ce_var (pv 0)) (ca_cons ce_int (ca_cons ce_int (ca_cons ce_int ca_nil))))))
    (css_cons (cs_par (i := 2) (j := 3) rfl sc_law.nd rfl rfl (by decide) rfl rfl (ca_cons (ce_callO (F__law_memory.mono (by decide)) hr (by rfl) Z.m__law_memory Z.k__law_memory B__law_memory (pv 1) (ca_cons ce_int ca_nil) rfl) (ca_cons (ce_callO (F__law_steps.mono (by decide)) hr (by rfl) Z.m__law_steps Z.k__law_steps B__law_steps (pv 1) ca_nil rfl) ca_nil)) (by rfl))
    (css_cons (cs_if (ct_notF (ct_truth (ce_call (F__law_alike.mono (by decide)) hr (by rfl) Z.m__law_alike Z.k__law_alike B__law_alike (ca_cons (ce_call (F_after.mono (by decide)) hr (by rfl) Z.m_after Z.k_after B_after (ca_cons (ce_var (pv 2)) (ca_cons (ce_var (pv 3)) ca_nil)) rfl) (ca_cons (ce_call (F__law_behind.mono (by decide)) hr (by rfl) Z.m__law_behind Z.k__law_behind B__law_behind (ca_cons (ce_var (pv 2)) (ca_cons (ce_var (pv 3)) ca_nil)) rfl) ca_nil)) rfl) Z.hK (by intro _; rfl))) (css_one (cs_ret ce_bl)) css_nil)
    (css_cons (cs_par (i := 4) (j := 5) rfl sc_law.nd rfl rfl (by decide) rfl rfl (ca_cons (ce_callB call_len (lenF_ok Z.hK) (by rfl) Z.g_len (by decide +kernel) (ca_cons (ce_var (pv 2)) ca_nil)) (ca_cons (ce_strm countF_ok countF_str (fun q qa => pe_bm PySem.F.plainAttrs_str PySem.F.slot_str_count PySem.F.type_str_count mt_count q qa) (ce_var (pv 2)) (ca_cons (ce_str (by rfl)) ca_nil)) ca_nil)) (by rfl))
    (css_cons (cs_nameO (fun q => ps_set (i := 6) sc_law.nd rfl (by first | exact Or.inl rfl | exact Or.inr rfl) q) (cf_lst (ca_cons (ce_var (pv 5)) ca_nil)))
    (css_cons (cs_for PassesOwn.never rfl (ci_any Z.hK (ce_var (pv 3))) (cg_name (pg_name (i := 7) sc_law.nd rfl (by first | exact Or.inl rfl | exact Or.inr rfl))) (css_cons (cs_name (fun q => ps_set (i := 5) sc_law.nd rfl (by first | exact Or.inl rfl | exact Or.inr rfl) q) (ce_ite (ct_cmp (op_eqA hr.units) (eqF_ok Z.hK) eqF_two eqF_boo (ce_var (pv 7)) (ce_str (by rfl)) (by rfl)) (ce_callB (call_min2 rfl) min2F_ok (by rfl) Z.g_min (by decide +kernel) (ca_cons (ce_var (pv 4)) (ca_cons (ce_bin op_addA (addF_ok Z.hK) addF_two (ce_var (pv 5)) ce_int) ca_nil))) (ce_callB (call_max2 rfl) max2F_ok (by rfl) Z.g_max (by decide +kernel) (ca_cons ce_int (ca_cons (ce_bin op_sub subF_ok subF_two (ce_var (pv 5)) ce_int) ca_nil)))))
      (css_one (cs_app (fun q => ps_expr (pe_bm PySem.F.plainAttrs_list PySem.F.slot_list_append PySem.F.type_list_append mt_append (pv 6) (pa_cons q pa_nil))) Z.hK (ce_var (pv 5))))))
    (css_cons (cs_if (ct_notF (ct_truth (ce_call (F__law_alike.mono (by decide)) hr (by rfl) Z.m__law_alike Z.k__law_alike B__law_alike (ca_cons (ce_call (F_heights.mono (by decide)) hr (by rfl) Z.m_heights Z.k_heights B_heights (ca_cons (ce_var (pv 2)) (ca_cons (ce_var (pv 3)) ca_nil)) rfl) (ca_cons (ce_callTy call_tuple_of tupleF_ok (by rfl) Z.g_tuple (by decide +kernel) (ca_cons (ce_var (pv 6)) ca_nil)) ca_nil)) rfl) Z.hK (by intro _; rfl))) (css_one (cs_ret ce_bl)) css_nil)
    (css_cons (cs_if (ct_notF (ct_truth (ce_call (F__law_alike.mono (by decide)) hr (by rfl) Z.m__law_alike Z.k__law_alike B__law_alike (ca_cons (ce_call (F_lasting.mono (by decide)) hr (by rfl) Z.m_lasting Z.k_lasting B_lasting (ca_cons (ce_var (pv 4)) (ca_cons (ce_var (pv 3)) ca_nil)) rfl) (ca_cons (ce_call (F__law_behind.mono (by decide)) hr (by rfl) Z.m__law_behind Z.k__law_behind B__law_behind (ca_cons (ce_bin op_mulA mulF_ok mulF_two (ce_str (by rfl)) (ce_var (pv 4))) (ca_cons (ce_var (pv 3)) ca_nil)) rfl) ca_nil)) rfl) Z.hK (by intro _; rfl))) (css_one (cs_ret ce_bl)) css_nil)
    (css_cons (cs_name (fun q => ps_set (i := 8) sc_law.nd rfl (by first | exact Or.inl rfl | exact Or.inr rfl) q) (ce_callO (F__law_taken.mono (by decide)) hr (by rfl) Z.m__law_taken Z.k__law_taken B__law_taken (pv 1) (ca_cons (ce_bin op_addA (addF_ok Z.hK) addF_two (ce_callB call_len (lenF_ok Z.hK) (by rfl) Z.g_len (by decide +kernel) (ca_cons (ce_var (pv 3)) ca_nil)) ce_int) ca_nil) rfl))
    (css_cons (cs_if (ct_cmp (op_neA hr.units) (neF_ok Z.hK) neF_two neF_boo (ce_call (F_after.mono (by decide)) hr (by rfl) Z.m_after Z.k_after B_after (ca_cons (ce_call (F_after.mono (by decide)) hr (by rfl) Z.m_after Z.k_after B_after (ca_cons (ce_var (pv 2)) (ca_cons (ce_sl2 Z.hK (ce_var (pv 3)) (ce_var (pv 8))) ca_nil)) rfl) (ca_cons (ce_sl1 Z.hK (ce_var (pv 3)) (ce_var (pv 8))) ca_nil)) rfl) (ce_call (F_after.mono (by decide)) hr (by rfl) Z.m_after Z.k_after B_after (ca_cons (ce_var (pv 2)) (ca_cons (ce_var (pv 3)) ca_nil)) rfl) (by rfl)) (css_one (cs_ret ce_bl)) css_nil)
    (css_one (cs_ret (ce_cmp (op_eqA hr.units) (eqF_ok Z.hK) eqF_two (ce_call (F_after.mono (by decide)) hr (by rfl) Z.m_after Z.k_after B_after (ca_cons (ce_var (pv 2)) (ca_cons (ce_bin op_mulA mulF_ok mulF_two (ce_str (by rfl)) (ce_var (pv 4))) ca_nil)) rfl) (ce_bin op_mulA mulF_ok mulF_two (ce_str (by rfl)) (ce_var (pv 4))) (by rfl))))))))))))))
theorem c_law {P : Program} {w : World} {K : Frag} {mg : Str → Option Value} {base : Heap} {C : Cfg} (Z : Fx K mg base C) : ∃ fd, FnOk P w K mg base CX0 9 (He.ga K "law") fd ["_law_script"] (spI C 1 φ_law) ∧ Binds K fd ["_law_script"] [] := by
  obtain ⟨fd, F⟩ := Z.f_law
  obtain ⟨fd__law_taken, F__law_taken, B__law_taken⟩ := c__law_taken (P := P) (w := w) Z
  obtain ⟨fd__law_memory, F__law_memory, B__law_memory⟩ := c__law_memory (P := P) (w := w) Z
  obtain ⟨fd__law_steps, F__law_steps, B__law_steps⟩ := c__law_steps (P := P) (w := w) Z
  obtain ⟨fd__law_alike, F__law_alike, B__law_alike⟩ := c__law_alike (P := P) (w := w) Z
  obtain ⟨fd_after, F_after, B_after⟩ := c_after (P := P) (w := w) Z
  obtain ⟨fd__law_behind, F__law_behind, B__law_behind⟩ := c__law_behind (P := P) (w := w) Z
  obtain ⟨fd_heights, F_heights, B_heights⟩ := c_heights (P := P) (w := w) Z
  obtain ⟨fd_lasting, F_lasting, B_lasting⟩ := c_lasting (P := P) (w := w) Z
  refine ⟨fd, ?_, F.bindsN fun _ _ _ _ _ _ us hl => match us, hl with | [_], _ => rfl⟩
  exact fnI_of F sc_law Z.hK (fun cdv A outer s0 H E hcd hr => d_law Z F__law_taken B__law_taken F__law_memory B__law_memory F__law_steps B__law_steps F__law_alike B__law_alike F_after B_after F__law_behind B__law_behind F_heights B_heights F_lasting B_lasting hr)
theorem law_ok {P : Program} {w : World} {K : Frag} {mg : Str → Option Value} {base : Heap} {C : Cfg} (Z : Fx K mg base C) {fd : FuncData} (F : FunD K "law" "law" (defArgs st_law) (defBody st_law) (defScope st_law) [] [] (He.ga K "law") fd) : FnOk P w K mg base CX0 9 (He.ga K "law") fd ["_law_script"] (spI C 1 φ_law) := by
  obtain ⟨fd__law_taken, F__law_taken, B__law_taken⟩ := c__law_taken (P := P) (w := w) Z
  obtain ⟨fd__law_memory, F__law_memory, B__law_memory⟩ := c__law_memory (P := P) (w := w) Z
  obtain ⟨fd__law_steps, F__law_steps, B__law_steps⟩ := c__law_steps (P := P) (w := w) Z
  obtain ⟨fd__law_alike, F__law_alike, B__law_alike⟩ := c__law_alike (P := P) (w := w) Z
  obtain ⟨fd_after, F_after, B_after⟩ := c_after (P := P) (w := w) Z
  obtain ⟨fd__law_behind, F__law_behind, B__law_behind⟩ := c__law_behind (P := P) (w := w) Z
  obtain ⟨fd_heights, F_heights, B_heights⟩ := c_heights (P := P) (w := w) Z
  obtain ⟨fd_lasting, F_lasting, B_lasting⟩ := c_lasting (P := P) (w := w) Z
  exact fnI_of F sc_law Z.hK (fun cdv A outer s0 H E hcd hr => d_law Z F__law_taken B__law_taken F__law_memory B__law_memory F__law_steps B__law_steps F__law_alike B__law_alike F_after B_after F__law_behind B__law_behind F_heights B_heights F_lasting B_lasting hr)
end Mi

namespace Mi
open PySem PySem.Spec PyProof.Rows L2 GxR
def fnD (nm : Str) (i : Nat) : He.DefD := ⟨(nm, none), nm, nm, defArgs (top i), defBody (top i), defScope (top i), [], []⟩
def fns : List He.DefD := [fnD "_law_taken" 20, fnD "_law_pick" 21, fnD "_law_memory" 26, fnD "_law_steps" 27, fnD "_law_alike" 22, fnD "is_memory" 9, fnD "need_memory" 10, fnD "is_input" 11, fnD "need_input" 12, fnD "step" 14, fnD "behind" 15, fnD "after" 16, fnD "_law_step" 23, fnD "_law_behind" 24, fnD "heights" 17, fnD "is_in" 8, fnD "need_span" 13, fnD "lasting" 18, fnD "law" 28]
def fas : List He.Fa := [.glo "_law_taken", .glo "_law_pick", .glo "_law_memory", .glo "_law_steps", .glo "_law_alike", .glo "is_memory", .glo "need_memory", .glo "is_input", .glo "need_input", .glo "step", .glo "behind", .glo "after", .glo "_law_step", .glo "_law_behind", .glo "heights", .glo "is_in", .glo "need_span", .glo "lasting", .glo "law", .free "all", .free "bool", .free "int", .free "isinstance", .free "len", .free "list", .free "max", .free "min", .free "range", .free "str", .free "tuple", .int "MOST_SPAN" 9, .int "MOST_STEPS" 200]
def tfs : List He.Defn := [("is_memory", none), ("is_input", none)]
abbrev R : PySem.W.OpenRow := PySem.W.OpenLaw.row PySem.Challenge.rw_relaybanks_k00_whole_memories
abbrev hk : PySem.W.Hook := He.hookX 4 fas fns [] tfs (fun _ => true)
def ob (s : PySem.W.SharedT) : He.AlX := He.obsX 4 fas fns [] tfs (fun _ => true) (HandSHeadRun.getT s)
theorem ob_eq (s : PySem.W.SharedT) : ob s = hk.obs s.abs := He.obsX_eq (HandSHeadRun.getT_eq s)
theorem run (w : World) : HandSHeadRun.RunEq R (PySem.W.view R.prog [28]) hk ob 4000 ["RelayError", "BadMemory", "BadInput", "BadSpan", "MOST_SPAN", "MOST_STEPS", "is_in", "is_memory", "need_memory", "is_input", "need_input", "need_span", "step", "behind", "after", "heights", "lasting", "_law_taken", "_law_pick", "_law_alike", "_law_step", "_law_behind", "_law_all", "_law_memory", "_law_steps"] w := by
  intro os
  kernel_rfl
section
variable {w : World} {K : Frag} {h : Heap} {mg : Str → Option Value}
abbrev cfg (K : Frag) : Cfg := ⟨K, (tfs.map (He.cT K)).map (·.2)⟩
theorem fx_of {base : Heap} (X : K.In h) (G : h.Ns mainGlobals mg) (c : He.SaysX fas fns [] tfs (fun _ => true) w h K) (hT : ∀ p ∈ tfs.map (He.cT K), TabB base mg p.1 p.2) : Fx K mg base (cfg K) :=
  ⟨rfl,
    He.free_ok X G (c.t.d.fact 19 rfl),
    He.free_ok X G (c.t.d.fact 20 rfl),
    He.free_ok X G (c.t.d.fact 21 rfl),
    He.free_ok X G (c.t.d.fact 22 rfl),
    He.free_ok X G (c.t.d.fact 23 rfl),
    He.free_ok X G (c.t.d.fact 24 rfl),
    He.free_ok X G (c.t.d.fact 25 rfl),
    He.free_ok X G (c.t.d.fact 26 rfl),
    He.free_ok X G (c.t.d.fact 27 rfl),
    He.free_ok X G (c.t.d.fact 28 rfl),
    He.free_ok X G (c.t.d.fact 29 rfl),
    He.int_ok X G (c.t.d.fact 30 rfl),
    He.int_ok X G (c.t.d.fact 31 rfl),
    He.glo_ok X G (c.t.d.fact 0 rfl),
    (let ⟨_, F⟩ := c.t.d.def_ 0 (d := fnD "_law_taken" 20) rfl; F.kp),
    c.t.d.def_ 0 (d := fnD "_law_taken" 20) rfl,
    He.glo_ok X G (c.t.d.fact 1 rfl),
    (let ⟨_, F⟩ := c.t.d.def_ 1 (d := fnD "_law_pick" 21) rfl; F.kp),
    c.t.d.def_ 1 (d := fnD "_law_pick" 21) rfl,
    He.glo_ok X G (c.t.d.fact 2 rfl),
    (let ⟨_, F⟩ := c.t.d.def_ 2 (d := fnD "_law_memory" 26) rfl; F.kp),
    c.t.d.def_ 2 (d := fnD "_law_memory" 26) rfl,
    He.glo_ok X G (c.t.d.fact 3 rfl),
    (let ⟨_, F⟩ := c.t.d.def_ 3 (d := fnD "_law_steps" 27) rfl; F.kp),
    c.t.d.def_ 3 (d := fnD "_law_steps" 27) rfl,
    He.glo_ok X G (c.t.d.fact 4 rfl),
    (let ⟨_, F⟩ := c.t.d.def_ 4 (d := fnD "_law_alike" 22) rfl; F.kp),
    c.t.d.def_ 4 (d := fnD "_law_alike" 22) rfl,
    He.glo_ok X G (c.t.d.fact 5 rfl),
    (let ⟨_, F⟩ := c.t.d.def_ 5 (d := fnD "is_memory" 9) rfl; F.kp),
    c.t.d.def_ 5 (d := fnD "is_memory" 9) rfl,
    hT _ (List.mem_of_getElem? (i := 0) rfl),
    List.mem_of_getElem? (i := 0) rfl,
    (let ⟨_, F⟩ := c.t.d.def_ 5 (d := fnD "is_memory" 9) rfl; tc_of F),
    He.glo_ok X G (c.t.d.fact 6 rfl),
    (let ⟨_, F⟩ := c.t.d.def_ 6 (d := fnD "need_memory" 10) rfl; F.kp),
    c.t.d.def_ 6 (d := fnD "need_memory" 10) rfl,
    He.glo_ok X G (c.t.d.fact 7 rfl),
    (let ⟨_, F⟩ := c.t.d.def_ 7 (d := fnD "is_input" 11) rfl; F.kp),
    c.t.d.def_ 7 (d := fnD "is_input" 11) rfl,
    hT _ (List.mem_of_getElem? (i := 1) rfl),
    List.mem_of_getElem? (i := 1) rfl,
    (let ⟨_, F⟩ := c.t.d.def_ 7 (d := fnD "is_input" 11) rfl; tc_of F),
    He.glo_ok X G (c.t.d.fact 8 rfl),
    (let ⟨_, F⟩ := c.t.d.def_ 8 (d := fnD "need_input" 12) rfl; F.kp),
    c.t.d.def_ 8 (d := fnD "need_input" 12) rfl,
    He.glo_ok X G (c.t.d.fact 9 rfl),
    (let ⟨_, F⟩ := c.t.d.def_ 9 (d := fnD "step" 14) rfl; F.kp),
    c.t.d.def_ 9 (d := fnD "step" 14) rfl,
    He.glo_ok X G (c.t.d.fact 10 rfl),
    (let ⟨_, F⟩ := c.t.d.def_ 10 (d := fnD "behind" 15) rfl; F.kp),
    c.t.d.def_ 10 (d := fnD "behind" 15) rfl,
    He.glo_ok X G (c.t.d.fact 11 rfl),
    (let ⟨_, F⟩ := c.t.d.def_ 11 (d := fnD "after" 16) rfl; F.kp),
    c.t.d.def_ 11 (d := fnD "after" 16) rfl,
    He.glo_ok X G (c.t.d.fact 12 rfl),
    (let ⟨_, F⟩ := c.t.d.def_ 12 (d := fnD "_law_step" 23) rfl; F.kp),
    c.t.d.def_ 12 (d := fnD "_law_step" 23) rfl,
    He.glo_ok X G (c.t.d.fact 13 rfl),
    (let ⟨_, F⟩ := c.t.d.def_ 13 (d := fnD "_law_behind" 24) rfl; F.kp),
    c.t.d.def_ 13 (d := fnD "_law_behind" 24) rfl,
    He.glo_ok X G (c.t.d.fact 14 rfl),
    (let ⟨_, F⟩ := c.t.d.def_ 14 (d := fnD "heights" 17) rfl; F.kp),
    c.t.d.def_ 14 (d := fnD "heights" 17) rfl,
    He.glo_ok X G (c.t.d.fact 15 rfl),
    (let ⟨_, F⟩ := c.t.d.def_ 15 (d := fnD "is_in" 8) rfl; F.kp),
    c.t.d.def_ 15 (d := fnD "is_in" 8) rfl,
    He.glo_ok X G (c.t.d.fact 16 rfl),
    (let ⟨_, F⟩ := c.t.d.def_ 16 (d := fnD "need_span" 13) rfl; F.kp),
    c.t.d.def_ 16 (d := fnD "need_span" 13) rfl,
    He.glo_ok X G (c.t.d.fact 17 rfl),
    (let ⟨_, F⟩ := c.t.d.def_ 17 (d := fnD "lasting" 18) rfl; F.kp),
    c.t.d.def_ 17 (d := fnD "lasting" 18) rfl,
    He.glo_ok X G (c.t.d.fact 18 rfl),
    (let ⟨_, F⟩ := c.t.d.def_ 18 (d := fnD "law" 28) rfl; F.kp),
    c.t.d.def_ 18 (d := fnD "law" 28) rfl⟩
end
end Mi
open PySem PySem.W PySem.Calls PyProof.Rows
theorem PySem.Challenge.cw_relaybanks_k00_whole_memories_holds : PySem.Challenge.rw_relaybanks_k00_whole_memories.Holds := by
  w_on; o_law
  refine HandSHeadRun.head_any (r := OpenLaw.row PySem.Challenge.rw_relaybanks_k00_whole_memories) (q := view (OpenLaw.row PySem.Challenge.rw_relaybanks_k00_whole_memories).prog [28]) (H := Mi.hk) (ob := Mi.ob) (M := 4000) (loose := ["RelayError", "BadMemory", "BadInput", "BadSpan", "MOST_SPAN", "MOST_STEPS", "is_in", "is_memory", "need_memory", "is_input", "need_input", "need_span", "step", "behind", "after", "heights", "lasting", "_law_taken", "_law_pick", "_law_alike", "_law_step", "_law_behind", "_law_all", "_law_memory", "_law_steps"]) (d := HandSHeadRun.topDef (OpenLaw.row PySem.Challenge.rw_relaybanks_k00_whole_memories).prog 28) (kwd := []) Mi.ob_eq
    (by kernel_rfl) (fun s => by kernel_rfl) Mi.run (by kernel_rfl) (by kernel_rfl) (by kernel_rfl) (by rfl) (by first | assumption | decide +kernel) (by decide +kernel) ⟨rfl, rfl, rfl, rfl, rfl, by decide +kernel⟩ ?hw ?hc
  case hw => w_witness2
  case hc =>
    refine LamX.walk_ofTsE (l := PySem.Challenge.rw_relaybanks_k00_whole_memories) (n := 63) (k := 9) (x := "_law_script") (CX := fun _ => L2.CX0) rfl (by decide) (by kernel_rfl) ⟨rfl, by decide, by decide⟩ ?F (fun _ _ _ _ _ z => z)
    intro w mg fa h Y G hmg0
    obtain ⟨K, KX, c⟩ := Y
    have hmg : mg ("law" : PySem.Str) = some (.ref fa) := by
      have e : (HandSHeadRun.topDef (OpenLaw.row PySem.Challenge.rw_relaybanks_k00_whole_memories).prog 28).name = ("law" : PySem.Str) := by kernel_rfl
      rw [← e]
      exact hmg0
    obtain ⟨fd, F⟩ := c.t.d.def_ 18 (d := Mi.fnD "law" 28) rfl
    have e := hmg.symm.trans (He.glo_ok KX G (c.t.d.fact 18 (f := .glo "law") rfl))
    have e2 : fa = He.ga K "law" := by
      cases e
      rfl
    subst e2
    refine ⟨K, KX, Mi.law_at c KX F (fun s v => F.bindsA (ps := ["_law_script"]) (fun _ _ _ _ _ _ us hl => match us, hl with | [_], _ => rfl) s [v] rfl) (fun base hT => (Mi.fx_of (base := base) KX G c hT)) (fun base Z => Mi.law_ok Z F) Mi.law_true⟩

