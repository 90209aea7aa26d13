import PyProof.Rows.All
import Wide.All
import OpenK.AllK
import Wide.FinOn
import HandS.ForMost
import HandS.IsInst
import HandS.Wide
import HandS.WideBits
import HandS.Defaults
import HandS.WordsExc
import HandS.Flow
import HandS.RaiseMore
import KE.KStateDown
import HandS.Head0
import HandS.Head1
import HandS.Head2
import HandS.HeadEnd
import HandS.HeadHook1
import HandS.HeadHook2
import HandS.Property
import HandS.ClsMeth
import HandS.Star
import HandS.FStr
import HandS.OwnEq
import HandS.Style
import HandS.TupAny
import KE.KOpsOwn
import KE.KFmtOwn
import PyProof.InstEq
import HandS.ExcInit
import KE.KUnpackStar
import KE.GoesEnum
import KE.GoesZip
import HandS.TupMul
import HandS.Small
import KE.KDictZip
import HandS.Keys
import PySem.Challenge.RW_sizechains_k24_chains_made
set_option Elab.async false
set_option linter.all false
set_option maxRecDepth 100000
set_option maxHeartbeats 4000000
namespace DS
open PySem L2

/-! ## plain values, plain meanings -/
theorem line_1000 : 1000 ≤ sizeLine := by rw [sizeLine_eq]; decide
inductive D where
  | non | bl (b : Bool) | int (i : Int) | str (s : Str)
  | tup (xs : List D) | lst (xs : List D) | emp | scr (ns : List Int) | cell (i : Nat) | ty (n : String)
  | obj (c : Str) (ns : List Str) (xs : List D) | cls (c : Str)

/-- what may change: a list, an object under way or for ever; a thing that is frozen by now -/
inductive Cel where
  | lst (xs : List D) | obj (c : Str) (ns : List Str) (xs : List D) | dead
abbrev Store := List Cel
inductive Slot where
  | un | val (d : D) | own (xs : List D)
abbrev REnv := List Slot
inductive Res (α : Type) where
  | ok (a : α) (st : Store) | exc (x : D) (st : Store) | bad
inductive Fl where
  | nx (r : REnv) | rt (d : D) | bk (r : REnv) | ct (r : REnv)
abbrev FEnv := Str → List D → Store → Res D
abbrev SE := FEnv → REnv → Store → Res D
abbrev ST := FEnv → REnv → Store → Res Bool
abbrev SA := FEnv → REnv → Store → Res (List D)
abbrev SS := FEnv → REnv → Store → Res Fl
abbrev SG := FEnv → D → REnv → Store → Res REnv

def Res.bind {α β : Type} : Res α → (α → Store → Res β) → Res β
  | .ok a st, f => f a st
  | .exc x st, _ => .exc x st
  | .bad, _ => .bad
@[simp] theorem bind_ok {α β : Type} (a : α) (st : Store) (f : α → Store → Res β) : Res.bind (.ok a st) f = f a st := rfl
def lift {α : Type} : Option α → Store → Res α
  | some a, st => .ok a st
  | none, _ => .bad
@[simp] theorem lift_some {α : Type} (a : α) (st : Store) : lift (some a) st = .ok a st := rfl

/-! ### expressions -/
def eVar (i : Nat) : SE := fun _ r st => match r[i]? with
  | some (.val d) => .ok d st
  | _ => .bad
def eC (d : D) : SE := fun _ _ st => .ok d st
def eUn (f : D → Option D) (a : SE) : SE := fun C r st => (a C r st).bind fun d st => lift (f d) st
def eBin (f : D → D → Option D) (a b : SE) : SE := fun C r st => (a C r st).bind fun d st => (b C r st).bind fun e st => lift (f d e) st
def aNil : SA := fun _ _ st => .ok [] st
def aCons (a : SE) (b : SA) : SA := fun C r st => (a C r st).bind fun d st => (b C r st).bind fun ds st => .ok (d :: ds) st
def eTup (a : SA) : SE := fun C r st => (a C r st).bind fun ds st => .ok (.tup ds) st
def eLst (a : SA) : SE := fun C r st => (a C r st).bind fun ds st => .ok (.lst ds) st
def eCell (a : SA) : SE := fun C r st => (a C r st).bind fun ds st => .ok (.cell st.length) (st ++ [.lst ds])
def eCall (f : Str) (a : SA) : SE := fun C r st => (a C r st).bind fun ds st => C f ds st
/-- where a parameter's value comes from: a place, a keyword, a default -/
inductive Src where
  | pos (i : Nat) | kw (j : Nat) | dfl (k : Nat) (d : D) | star (i : Nat)
def pickD (us ws : List D) : Src → D
  | .pos i => us.getD i .non
  | .kw j => ws.getD j .non
  | .dfl _ d => d
  | .star i => .tup (us.drop i)
def eCallK (f : Str) (src : List Src) (a k : SA) : SE := fun C r st => (a C r st).bind fun us st => (k C r st).bind fun ws st => C f (src.map (pickD us ws)) st
def eBlt (g : List D → Option D) (a : SA) : SE := fun C r st => (a C r st).bind fun ds st => lift (g ds) st

/-! ### objects -/
/-- an attribute by its class: of the instance, a constant of the class, a property -/
inductive AK where
  | fld | con (d : D) | prop (f : Str)
def clsOf (d : D) (st : Store) : Option Str := match d with
  | .obj c _ _ => some c
  | .cell i => match st[i]? with
    | some (.obj c _ _) => some c
    | _ => none
  | _ => none
def fldsOf (d : D) (st : Store) : List (Str × D) := match d with
  | .obj _ ns xs => ns.zip xs
  | .cell i => match st[i]? with
    | some (.obj _ ns xs) => ns.zip xs
    | _ => []
  | _ => []
/-- a property raises nothing -/
def noX {α : Type} (r : Res α) : Res α := match r with
  | .exc _ _ => .bad
  | r => r
@[simp] theorem noX_ok {α : Type} (d : α) (st : Store) : noX (.ok d st) = .ok d st := rfl
def attrD (C : FEnv) (f : Str) (tab : List (Str × AK)) (d : D) (st : Store) : Res D := match clsOf d st with
  | none => .bad
  | some c => match tab.lookup c with
    | none => .bad
    | some .fld => lift ((fldsOf d st).lookup f) st
    | some (.con v) => match (fldsOf d st).lookup f with
      | none => .ok v st
      | some _ => .bad
    | some (.prop g) => noX (C g [d] st)
def eAttr (f : Str) (tab : List (Str × AK)) (o : SE) : SE := fun C r st => (o C r st).bind fun d st => attrD C f tab d st
/-- what is called stands fast before the arguments are asked -/
def pickM (m : Str) (tab : List (Str × Str × List Src)) (d : D) (st : Store) : Option (Str × List Src) := match clsOf d st with
  | none => none
  | some c => match (fldsOf d st).lookup m with
    | none => tab.lookup c
    | some _ => none
def eMeth (m : Str) (tab : List (Str × Str × List Src)) (o : SE) (a k : SA) : SE := fun C r st => (o C r st).bind fun d st => (lift (pickM m tab d st) st).bind fun fs st => (a C r st).bind fun us st => (k C r st).bind fun ws st => C fs.1 (fs.2.map (pickD (d :: us) ws)) st
/-- a new object is frozen behind its __init__ -/
def frzD (i : Nat) (v : D) (st : Store) : Res D := match v, st[i]? with
  | .non, some (.obj c ns xs) => .ok (.obj c ns xs) (st.set i .dead)
  | _, _ => .bad
def eMake (c f : Str) (src : List Src) (a k : SA) : SE := fun C r st => (a C r st).bind fun us st => (k C r st).bind fun ws st => (C f (src.map (pickD (.cell st.length :: us) ws)) (st ++ [.obj c [] []])).bind fun v st' => frzD st.length v st'
def eMake0 (c : Str) : SE := fun _ _ st => .ok (.obj c [] []) (st ++ [.dead])
def putN (f : Str) : List Str → List Str
  | [] => [f]
  | g :: r => if g = f then g :: r else g :: putN f r
def putX {α : Type} (f : Str) (d : α) : List Str → List α → List α
  | g :: r, x :: xs => if g = f then d :: xs else x :: putX f d r xs
  | _, _ => [d]

/-! ### tests -/
def dTru : D → Option Bool
  | .non => some false
  | .bl b => some b
  | .int i => some (i != 0)
  | .str x => if x.length ≤ sizeLine then some (x.length != 0) else none
  | .tup xs => some (!xs.isEmpty)
  | .lst xs => some (!xs.isEmpty)
  | _ => none
def tE (a : SE) : ST := fun C r st => (a C r st).bind fun d st => lift (dTru d) st
def tNt (a : ST) : ST := fun C r st => (a C r st).bind fun b st => .ok (!b) st
def tAn (a b : ST) : ST := fun C r st => (a C r st).bind fun k st => if k = true then b C r st else .ok false st
def tOr' (a b : ST) : ST := fun C r st => (a C r st).bind fun k st => if k = true then .ok true st else b C r st
def tIf' (c a b : ST) : ST := fun C r st => (c C r st).bind fun k st => if k = true then a C r st else b C r st
def eBad : SE := fun _ _ _ => .bad
def tBad : ST := fun _ _ _ => .bad
def eIf (c : ST) (a b : SE) : SE := fun C r st => (c C r st).bind fun k st => if k = true then a C r st else b C r st
def eAn (a b : SE) : SE := fun C r st => (a C r st).bind fun d st => (lift (dTru d) st).bind fun k st => if k = true then b C r st else .ok d st
def eOr (a b : SE) : SE := fun C r st => (a C r st).bind fun d st => (lift (dTru d) st).bind fun k st => if k = true then .ok d st else b C r st
def eNt (a : SE) : SE := fun C r st => (a C r st).bind fun d st => (lift (dTru d) st).bind fun k st => .ok (.bl (!k)) st
def eIxx (f : D → D → Store → Option D) (a b : SE) : SE := fun C r st => (a C r st).bind fun d st => (b C r st).bind fun e st => lift (f d e st) st
abbrev SO := FEnv → REnv → Store → Res (Option Int)
def oNone : SO := fun _ _ st => .ok none st
def oSome (a : SE) : SO := fun C r st => (a C r st).bind fun d st => match d with
  | .int i => .ok (some i) st
  | _ => .bad
def eSll (f : D → Option Int → Option Int → Option D) (a : SE) (lo hi : SO) : SE := fun C r st => (a C r st).bind fun d st => (lo C r st).bind fun l st => (hi C r st).bind fun h st => lift (f d l h) st
/-- a < b < c -/
def eChn (f g : D → D → Option D) (a b c : SE) : SE := fun C r st => (a C r st).bind fun d st => (b C r st).bind fun e st => (lift (f d e) st).bind fun k st => match k with
  | .bl true => (c C r st).bind fun h st => lift (g e h) st
  | .bl false => .ok (.bl false) st
  | _ => .bad

/-! ### what is walked -/
def dIter : D → Option (List D)
  | .tup xs => some xs
  | .lst xs => some xs
  | .scr ns => some (ns.map .int)
  | .str x => some (x.cps.toList.map fun c => .str ⟨#[c]⟩)
  | _ => none
def eIter (a : SE) : SA := fun C r st => (a C r st).bind fun d st => lift (dIter d) st
def rng (lo hi : Int) : List D := (List.range (hi - lo).toNat).map fun i => .int (lo + (i : Nat))
def dRng : List D → Option (List D)
  | [.int j] => if -(2 ^ 62) ≤ j ∧ j < 2 ^ 62 then some (rng 0 j) else none
  | [.int i, .int j] => if -(2 ^ 62) ≤ i ∧ i < 2 ^ 62 ∧ -(2 ^ 62) ≤ j ∧ j < 2 ^ 62 then some (rng i j) else none
  | _ => none
def eRng (a : SA) : SA := fun C r st => (a C r st).bind fun ds st => lift (dRng ds) st

/-! ### targets -/
inductive Tg where
  | nm (i : Nat) | tp (ts : List Tg)
mutual
def bindT : Tg → D → REnv → Option REnv
  | .nm i, d, r => some (r.set i (.val d))
  | .tp ts, .tup ds, r => bindTs ts ds r
  | .tp _, _, _ => none
def bindTs : List Tg → List D → REnv → Option REnv
  | [], [], r => some r
  | t :: ts, d :: ds, r => match bindT t d r with
    | some r' => bindTs ts ds r'
    | none => none
  | [], _ :: _, _ => none
  | _ :: _, [], _ => none
end
mutual
def slotsT : Tg → List Nat
  | .nm i => [i]
  | .tp ts => slotsTs ts
def slotsTs : List Tg → List Nat
  | [] => []
  | t :: ts => slotsT t ++ slotsTs ts
end
def gTg (t : Tg) : SG := fun _ d r st => lift (bindT t d r) st
def gMany : List SG → FEnv → List D → REnv → Store → Res REnv
  | [], _, [], r, st => .ok r st
  | g :: gs, C, d :: ds, r, st => (g C d r st).bind fun r st => gMany gs C ds r st
  | _, _, _, _, _ => .bad
def gTp (gs : List SG) : SG := fun C d r st => match d with
  | .tup ds => if ds.length = gs.length then gMany gs C ds r st else .bad
  | _ => .bad
def gCell (o i : SE) : SG := fun C d r st => (o C r st).bind fun x st => (i C r st).bind fun k st => match x, k with
  | .cell c, .int k => match st[c]? with
    | some (.lst xs) => match ixN xs.length k with
      | some j => .ok r (st.set c (.lst (xs.set j d)))
      | none => .bad
    | _ => .bad
  | _, _ => .bad

/-- o.f = d, of an object that may change -/
def gFld (f : Str) (tab : List (Str × AK)) (o : SE) : SG := fun C d r st => (o C r st).bind fun x st => match x with
  | .cell i => match st[i]? with
    | some (.obj c ns xs) => match tab.lookup c with
      | some .fld => if ns.length < 1000 then .ok r (st.set i (.obj c (putN f ns) (putX f d ns xs))) else .bad
      | _ => .bad
    | _ => .bad
  | _ => .bad

/-! ### comprehensions -/
def compGo (g : Tg) (t : ST) (e : SE) (C : FEnv) (r : REnv) : List D → List D → Store → Res (List D)
  | [], acc, st => .ok acc st
  | x :: xs, acc, st => (lift (bindT g x r) st).bind fun r2 st => (noX (t C r2 st)).bind fun k st =>
    if k = true then (noX (e C r2 st)).bind fun y st => compGo g t e C r xs (acc ++ [y]) st else compGo g t e C r xs acc st
def wipeR (r : REnv) : List Nat → REnv
  | [] => r
  | v :: vs => (wipeR r vs).set v .un
def tYs : ST := fun _ _ st => .ok true st
/-- the places vs are the comprehension's own -/
def eComp (vs : List Nat) (it : SA) (g : Tg) (t : ST) (e : SE) : SE := fun C r st => (it C r st).bind fun xs st =>
  if xs.length < sizeLine then (compGo g t e C (wipeR r vs) xs [] st).bind fun ys st => .ok (.lst ys) st else .bad

/-! ### statements -/
def sNil : SS := fun _ r st => .ok (.nx r) st
def sSeq (a b : SS) : SS := fun C r st => (a C r st).bind fun f st => match f with
  | .nx r => b C r st
  | f => .ok f st
def sAsg (e : SE) (g : SG) : SS := fun C r st => (e C r st).bind fun d st => (g C d r st).bind fun r st => .ok (.nx r) st
def sPar (is : List Nat) (a : SA) : SS := fun C r st => (a C r st).bind fun ds st => (lift (bindTs (is.map .nm) ds r) st).bind fun r st => .ok (.nx r) st
def sExp (e : SE) : SS := fun C r st => (e C r st).bind fun _ st => .ok (.nx r) st
def sRet (e : SE) : SS := fun C r st => (e C r st).bind fun d st => .ok (.rt d) st
def sIf (c : ST) (a b : SS) : SS := fun C r st => (c C r st).bind fun k st => if k = true then a C r st else b C r st
def sBrk : SS := fun _ r st => .ok (.bk r) st
def sCnt : SS := fun _ r st => .ok (.ct r) st
def forGo (g : Tg) (b : SS) (C : FEnv) : List D → REnv → Store → Res Fl
  | [], r, st => .ok (.nx r) st
  | x :: xs, r, st => (lift (bindT g x r) st).bind fun r st => (b C r st).bind fun f st => match f with
    | .nx r => forGo g b C xs r st
    | .ct r => forGo g b C xs r st
    | .bk r => .ok (.nx r) st
    | .rt d => .ok (.rt d) st
def sFor (it : SA) (g : Tg) (b : SS) : SS := fun C r st => (it C r st).bind fun xs st => forGo g b C xs r st
/-- a while, of at most n tests -/
def whileGo (c : ST) (b : SS) (C : FEnv) : Nat → REnv → Store → Option (Res Fl)
  | 0, _, _ => none
  | n + 1, r, st => match c C r st with
    | .ok true st => match b C r st with
      | .ok (.nx r) st => whileGo c b C n r st
      | .ok (.ct r) st => whileGo c b C n r st
      | .ok (.bk r) st => some (.ok (.nx r) st)
      | .ok (.rt d) st => some (.ok (.rt d) st)
      | .exc x st => some (.exc x st)
      | .bad => some .bad
    | .ok false st => some (.ok (.nx r) st)
    | .exc x st => some (.exc x st)
    | .bad => some .bad
open Classical in
noncomputable def sWhl (c : ST) (b : SS) : SS := fun C r st => if h : ∃ n q, whileGo c b C n r st = some q then h.choose_spec.choose else .bad
theorem whileGo_mono (c : ST) (b : SS) (C : FEnv) : ∀ (n k : Nat) (r : REnv) (st : Store) (q : Res Fl), whileGo c b C n r st = some q → whileGo c b C (n + k) r st = some q
  | 0, _, _, _, _, h => by cases h
  | n + 1, k, r, st, q, h => by
    rw [show n + 1 + k = (n + k) + 1 by omega]
    unfold whileGo at h ⊢
    split at h
    · split at h
      all_goals first | exact whileGo_mono c b C n k _ _ q h | exact h
    all_goals exact h
theorem sWhl_eq {c : ST} {b : SS} {C : FEnv} {n : Nat} {r : REnv} {st : Store} {q : Res Fl} (h : whileGo c b C n r st = some q) : sWhl c b C r st = q := by
  have hx : ∃ n q, whileGo c b C n r st = some q := ⟨n, q, h⟩
  unfold sWhl
  rw [dif_pos hx]
  have e := hx.choose_spec.choose_spec
  have a1 := whileGo_mono c b C _ n _ _ _ e
  have a2 := whileGo_mono c b C _ hx.choose _ _ _ h
  rw [Nat.add_comm, a2] at a1
  exact (Option.some.inj a1).symm
/-- a local list of one's own -/
def sOwn (i : Nat) (a : SA) : SS := fun C r st => (a C r st).bind fun ds st => .ok (.nx (r.set i (.own ds))) st
def sApp (i : Nat) (e : SE) : SS := fun C r st => match r[i]? with
  | some (.own xs) => (e C r st).bind fun d st => if xs.length < sizeLine then .ok (.nx (r.set i (.own (xs ++ [d])))) st else .bad
  | _ => .bad
def sFrz (i : Nat) : SS := fun _ r st => match r[i]? with
  | some (.own xs) => .ok (.nx (r.set i (.val (.lst xs)))) st
  | _ => .ok (.nx r) st
/-- a def: n names in all -/
def body (n : Nat) (b : SS) : FEnv → List D → Store → Res D := fun C ds st =>
  (b C (ds.map .val ++ List.replicate (n - ds.length) .un) st).bind fun f st => match f with
    | .nx _ => .ok .non st
    | .rt d => .ok d st
    | _ => .bad
end DS
namespace DS
open PySem L2
/-! ## how plain values stand in the heap -/
structure Wo where
  F : Hp
  m : Nat → Addr
  n : Nat
mutual
inductive Rep (K : PySem.W.Frag) (o : Wo) : V → D → Prop
  | non : Rep K o .non .non
  | bl (b : Bool) : Rep K o (.bl b) (.bl b)
  | int (i : Int) : Rep K o (.int i) (.int i)
  | str (x : Str) : Rep K o (.str x) (.str x)
  | tup {a : Addr} {vs : List V} {ds : List D} : SqT K o.F a vs → Reps K o vs ds → Rep K o (.ref a) (.tup ds)
  | lst {a : Addr} {vs : List V} {ds : List D} : o.F a = some (.lst vs) → Reps K o vs ds → Rep K o (.ref a) (.lst ds)
  | emp {a : Addr} : o.F a = some (.dK []) → Rep K o (.ref a) .emp
  | scr {a : Addr} {ns : List Int} : SqL K o.F a (ns.map V.int) → Rep K o (.ref a) (.scr ns)
  | cell {i : Nat} : i < o.n → Rep K o (.ref (o.m i)) (.cell i)
  | ty (n : String) : Rep K o (.ty n) (.ty n)
  | obj {a dx : Addr} {c : Str} {ns : List Str} {vs : List V} {xs : List D} : o.F a = some (.ins (He.ga K c) dx (ns.zip vs)) → o.F dx = some (.own a) → ns.length = vs.length → Reps K o vs xs → Rep K o (.ref a) (.obj c ns xs)
  | cls (c : Str) : Rep K o (.ref (He.ga K c)) (.cls c)
inductive Reps (K : PySem.W.Frag) (o : Wo) : List V → List D → Prop
  | nil : Reps K o [] []
  | cons {v : V} {d : D} {vs : List V} {ds : List D} : Rep K o v d → Reps K o vs ds → Reps K o (v :: vs) (d :: ds)
end
/-- more is known -/
structure Sub (o o' : Wo) : Prop where
  f : ∀ a u, o.F a = some u → o'.F a = some u
  m : ∀ i, i < o.n → o'.m i = o.m i
  n : o.n ≤ o'.n
theorem Sub.refl (o : Wo) : Sub o o := ⟨fun _ _ h => h, fun _ _ => rfl, Nat.le_refl _⟩
theorem Sub.trans {a b c : Wo} (h : Sub a b) (k : Sub b c) : Sub a c := ⟨fun x u q => k.f x u (h.f x u q), fun i q => (k.m i (Nat.lt_of_lt_of_le q h.n)).trans (h.m i q), Nat.le_trans h.n k.n⟩
theorem rd_sub {o o' : Wo} (h : Sub o o') {a : Addr} {u : HO} (r : Rd o.F a u) : Rd o'.F a u := by
  rcases r with r | ⟨x, r⟩
  · exact .inl (h.f _ _ r)
  · exact .inr ⟨x, h.f _ _ r⟩
theorem sqT_sub {K : PySem.W.Frag} {o o' : Wo} (h : Sub o o') {a : Addr} {xs : List V} (r : SqT K o.F a xs) : SqT K o'.F a xs := by
  rcases r with r | r
  · exact .inl (rd_sub h r)
  · exact .inr r
theorem sqL_sub {K : PySem.W.Frag} {o o' : Wo} (h : Sub o o') {a : Addr} {xs : List V} (r : SqL K o.F a xs) : SqL K o'.F a xs := by
  rcases r with r | r
  · exact .inl (rd_sub h r)
  · exact .inr r
mutual
theorem Rep.mono {K : PySem.W.Frag} {o o' : Wo} (h : Sub o o') : ∀ {v : V} {d : D}, Rep K o v d → Rep K o' v d
  | _, _, .non => .non
  | _, _, .bl b => .bl b
  | _, _, .int i => .int i
  | _, _, .str x => .str x
  | _, _, .tup a b => .tup (sqT_sub h a) (Reps.mono h b)
  | _, _, .lst a b => .lst (h.f _ _ a) (Reps.mono h b)
  | _, _, .emp a => .emp (h.f _ _ a)
  | _, _, .scr a => .scr (sqL_sub h a)
  | _, _, .ty n => .ty n
  | _, _, .cls n => .cls n
  | _, _, .obj a b c d => .obj (h.f _ _ a) (h.f _ _ b) c (Reps.mono h d)
  | _, _, .cell (i := i) q => by
    rw [← h.m i q]
    exact .cell (Nat.lt_of_lt_of_le q h.n)
theorem Reps.mono {K : PySem.W.Frag} {o o' : Wo} (h : Sub o o') : ∀ {v : List V} {d : List D}, Reps K o v d → Reps K o' v d
  | _, _, .nil => .nil
  | _, _, .cons a b => .cons (Rep.mono h a) (Reps.mono h b)
end
section
variable {K : PySem.W.Frag} {o : Wo}
theorem Reps.len : ∀ {vs : List V} {ds : List D}, Reps K o vs ds → vs.length = ds.length
  | _, _, .nil => rfl
  | _, _, .cons _ b => congrArg (· + 1) (Reps.len b)
theorem Reps.get : ∀ {vs : List V} {ds : List D} {i : Nat} {d : D}, Reps K o vs ds → ds[i]? = some d → ∃ v, vs[i]? = some v ∧ Rep K o v d
  | _, _, _, _, .nil, h => by simp at h
  | _, _, 0, _, .cons a _, h => by
    simp at h
    subst h
    exact ⟨_, rfl, a⟩
  | _, _, i + 1, d, .cons _ b, h => by
    obtain ⟨v, h1, h2⟩ := Reps.get (i := i) (d := d) b (by simpa using h)
    exact ⟨v, by simpa using h1, h2⟩
theorem Reps.getV : ∀ {vs : List V} {ds : List D} {i : Nat} {v : V}, Reps K o vs ds → vs[i]? = some v → ∃ d, ds[i]? = some d ∧ Rep K o v d
  | _, _, _, _, .nil, h => by simp at h
  | _, _, 0, _, .cons a _, h => by
    simp at h
    subst h
    exact ⟨_, rfl, a⟩
  | _, _, i + 1, d, .cons _ b, h => by
    obtain ⟨v, h1, h2⟩ := Reps.getV (i := i) (v := d) b (by simpa using h)
    exact ⟨v, by simpa using h1, h2⟩
theorem Reps.app : ∀ {vs ws : List V} {ds es : List D}, Reps K o vs ds → Reps K o ws es → Reps K o (vs ++ ws) (ds ++ es)
  | _, _, _, _, .nil, h => h
  | _, _, _, _, .cons a b, h => .cons a (Reps.app b h)
theorem Reps.set {x : V} {y : D} (r : Rep K o x y) : ∀ {vs : List V} {ds : List D} (i : Nat), Reps K o vs ds → Reps K o (vs.set i x) (ds.set i y)
  | _, _, _, .nil => .nil
  | _, _, 0, .cons _ b => .cons r b
  | _, _, i + 1, .cons a b => .cons a (Reps.set r i b)
theorem Reps.drop : ∀ {vs : List V} {ds : List D} (i : Nat), Reps K o vs ds → Reps K o (vs.drop i) (ds.drop i)
  | _, _, 0, h => h
  | _, _, _ + 1, .nil => .nil
  | _, _, i + 1, .cons _ b => Reps.drop i b
theorem Reps.take : ∀ {vs : List V} {ds : List D} (i : Nat), Reps K o vs ds → Reps K o (vs.take i) (ds.take i)
  | _, _, 0, _ => .nil
  | _, _, _ + 1, .nil => .nil
  | _, _, i + 1, .cons a b => .cons a (Reps.take i b)
theorem Reps.flat {vs : List V} {ds : List D} (h : Reps K o vs ds) : ∀ k : Nat, Reps K o (List.replicate k vs).flatten (List.replicate k ds).flatten
  | 0 => .nil
  | k + 1 => by
    rw [List.replicate_succ, List.replicate_succ, List.flatten_cons, List.flatten_cons]
    exact h.app (Reps.flat h k)
theorem Reps.ints : ∀ ns : List Int, Reps K o (ns.map V.int) (ns.map D.int)
  | [] => .nil
  | n :: r => .cons (.int n) (Reps.ints r)
end
/-- how a cell stands -/
def CelOk (K : PySem.W.Frag) (o : Wo) (H : Hp) (a : Addr) : Cel → Prop
  | .lst xs => o.F a = none ∧ ∃ vs, H a = some (.lst vs) ∧ Reps K o vs xs
  | .obj c ns xs => o.F a = none ∧ ∃ dx vs, H a = some (.ins (He.ga K c) dx (ns.zip vs)) ∧ o.F dx = some (.own a) ∧ ns.length = vs.length ∧ Reps K o vs xs
  | .dead => ∃ u, o.F a = some u ∧ H a = some u
theorem CelOk.move {K : PySem.W.Frag} {o o' : Wo} {H H' : Hp} {a : Addr} {c : Cel} (q : CelOk K o H a c) (s : Sub o o') (hF : o.F a = none → o'.F a = none) (hH : ∀ u, H a = some u → H' a = some u) : CelOk K o' H' a c := by
  cases c with
  | lst xs => exact ⟨hF q.1, let ⟨vs, a, b⟩ := q.2; ⟨vs, hH _ a, b.mono s⟩⟩
  | obj c ns xs => exact ⟨hF q.1, let ⟨dx, vs, a, b, l, r⟩ := q.2; ⟨dx, vs, hH _ a, s.f _ _ b, l, r.mono s⟩⟩
  | dead => exact let ⟨u, a, b⟩ := q; ⟨u, s.f _ _ a, hH _ b⟩
theorem CelOk.some {K : PySem.W.Frag} {o : Wo} {H : Hp} {a : Addr} {c : Cel} (q : CelOk K o H a c) : ∃ u, H a = some u ∧ ∀ x, u ≠ .own x ∨ o.F a ≠ none := by
  cases c with
  | lst xs => exact let ⟨vs, a, b⟩ := q.2; ⟨_, a, fun x => .inl (by simp)⟩
  | obj c ns xs => exact let ⟨dx, vs, a, _⟩ := q.2; ⟨_, a, fun x => .inl (by simp)⟩
  | dead => exact let ⟨u, a, b⟩ := q; ⟨u, b, fun x => .inr (by rw [a]; simp)⟩
/-- the heap holds what is known -/
structure Wd (K : PySem.W.Frag) (o : Wo) (H : Hp) (st : Store) : Prop where
  n : o.n = st.length
  sub : ∀ a u, o.F a = some u → H a = some u
  cel : ∀ i c, st[i]? = some c → CelOk K o H (o.m i) c
  inj : ∀ i j, i < o.n → j < o.n → o.m i = o.m j → i = j
/-- from one state to a later one -/
structure Ext (o : Wo) (H : Hp) (o' : Wo) (H' : Hp) : Prop where
  sub : Sub o o'
  new : ∀ a u, o'.F a = some u → o.F a = none → H a = none
  cel : ∀ i, o.n ≤ i → i < o'.n → H (o'.m i) = none
  keep : ∀ a u, H a = some u → (∀ i, i < o.n → a ≠ o.m i) → H' a = some u
theorem Ext.refl (o : Wo) (H : Hp) : Ext o H o H := ⟨.refl o, fun a u h n => (by rw [h] at n; cases n), fun i h k => absurd k (Nat.not_lt.mpr h), fun _ _ h _ => h⟩
section
variable {K : PySem.W.Frag} {o o1 o2 : Wo} {H H1 H2 : Hp} {st st1 st2 : Store}
theorem Wd.cel' (w : Wd K o H st) {i : Nat} (h : i < o.n) : ∃ c, st[i]? = some c ∧ CelOk K o H (o.m i) c := by
  have h' : i < st.length := by rw [← w.n]; exact h
  exact ⟨_, List.getElem?_eq_getElem h', w.cel i st[i] (List.getElem?_eq_getElem h')⟩
theorem Wd.celS (w : Wd K o H st) {i : Nat} (h : i < o.n) : ∃ u, H (o.m i) = some u := let ⟨_, _, q⟩ := w.cel' h; let ⟨u, e, _⟩ := q.some; ⟨u, e⟩
theorem Ext.free (e : Ext o H o1 H1) (w1 : Wd K o1 H1 st1) {a : Addr} (h : H1 a = none) : H a = none := by
  cases q : H a with
  | none => rfl
  | some u =>
    by_cases c : ∃ i, i < o.n ∧ a = o.m i
    · obtain ⟨i, hi, rfl⟩ := c
      obtain ⟨u, z⟩ := w1.celS (Nat.lt_of_lt_of_le hi e.sub.n)
      rw [e.sub.m i hi, h] at z
      cases z
    · have := e.keep a u q fun i hi z => c ⟨i, hi, z⟩
      rw [h] at this
      cases this
theorem Ext.trans (w1 : Wd K o1 H1 st1) (e : Ext o H o1 H1) (k : Ext o1 H1 o2 H2) : Ext o H o2 H2 where
  sub := e.sub.trans k.sub
  new := fun a u h n => by
    cases q : o1.F a with
    | some u' => exact e.new a u' q n
    | none => exact e.free w1 (k.new a u h q)
  cel := fun i h1 h2 => by
    by_cases c : i < o1.n
    · rw [k.sub.m i c]
      exact e.cel i h1 c
    · exact e.free w1 (k.cel i (Nat.not_lt.mp c) h2)
  keep := fun a u h n => k.keep a u (e.keep a u h n) fun i hi z => by
    by_cases c : i < o.n
    · exact n i c (by rw [z, e.sub.m i c])
    · have := e.cel i (Nat.not_lt.mp c) hi
      rw [← z, h] at this
      cases this
/-- a new thing that never changes -/
def Wo.put (o : Wo) (p : Addr) (u : HO) : Wo := { o with F := upd o.F p u }
theorem Wd.fnone (w : Wd K o H st) {p : Addr} (h : H p = none) : o.F p = none := by
  cases q : o.F p with
  | none => rfl
  | some u =>
    rw [w.sub p u q] at h
    cases h
theorem put_sub (w : Wd K o H st) {p : Addr} {u : HO} (h : H p = none) : Sub o (o.put p u) :=
  ⟨fun a x q => by
    show upd o.F p u a = some x
    rw [upd_ne (ne_of_none q (w.fnone h))]
    exact q, fun _ _ => rfl, Nat.le_refl _⟩
theorem put_wd (w : Wd K o H st) {p : Addr} {u : HO} (h : H p = none) : Wd K (o.put p u) (upd H p u) st where
  n := w.n
  sub := fun a x q => by
    by_cases e : a = p
    · subst e
      have q : upd o.F a u a = some x := q
      rw [upd_same] at q ⊢
      exact q
    · have q : upd o.F p u a = some x := q
      rw [upd_ne e] at q ⊢
      exact w.sub a x q
  cel := fun i c q => by
    have k := w.cel i c q
    obtain ⟨x, b, _⟩ := k.some
    have ne : o.m i ≠ p := ne_of_none b h
    refine k.move (put_sub w h) (fun z => ?_) fun y z => ?_
    · show upd o.F p u (o.m i) = none
      rw [upd_ne ne]
      exact z
    · show upd H p u (o.m i) = _
      rw [upd_ne ne]
      exact z
  inj := w.inj
theorem put_ext (w : Wd K o H st) {p : Addr} {u : HO} (h : H p = none) : Ext o H (o.put p u) (upd H p u) where
  sub := put_sub w h
  new := fun a x q n => by
    by_cases e : a = p
    · rw [e]
      exact h
    · have q : upd o.F p u a = some x := q
      rw [upd_ne e, n] at q
      cases q
  cel := fun i h1 h2 => absurd h2 (Nat.not_lt.mpr h1)
  keep := fun a x q _ => by
    rw [upd_ne (ne_of_none q h)]
    exact q
/-- a new cell -/
def Wo.more (o : Wo) (p : Addr) : Wo := { o with m := fun i => if i = o.n then p else o.m i, n := o.n + 1 }
theorem more_sub (o : Wo) (p : Addr) : Sub o (o.more p) := ⟨fun _ _ h => h, fun i h => by
  show (if i = o.n then p else o.m i) = o.m i
  rw [if_neg (Nat.ne_of_lt h)], Nat.le_succ _⟩
theorem more_wd (w : Wd K o H st) {p : Addr} {x : HO} {cl : Cel} (h : H p = none) (r : CelOk K (o.more p) (upd H p x) p cl) : Wd K (o.more p) (upd H p x) (st ++ [cl]) where
  n := by
    show o.n + 1 = _
    rw [List.length_append, w.n]
    rfl
  sub := fun a x q => by
    have q : o.F a = some x := q
    rw [upd_ne (ne_of_none (w.sub a x q) h)]
    exact w.sub a x q
  cel := fun i ys q => by
    by_cases c : i < o.n
    · rw [List.getElem?_append_left (by rw [← w.n]; exact c)] at q
      have k := w.cel i ys q
      obtain ⟨x', b, _⟩ := k.some
      have e : (o.more p).m i = o.m i := (more_sub o p).m i c
      rw [e]
      exact k.move (more_sub o p) (fun z => z) fun y z => by rw [upd_ne (ne_of_none b h)]; exact z
    · have hi : i = o.n := by
        have : i < (st ++ [cl]).length := (List.getElem?_eq_some_iff.mp q).1
        rw [List.length_append, ← w.n] at this
        have : i < o.n + 1 := this
        omega
      have e : (o.more p).m i = p := by
        show (if i = o.n then p else o.m i) = p
        rw [if_pos hi]
      rw [e]
      rw [hi, w.n, List.getElem?_append_right (Nat.le_refl _), Nat.sub_self] at q
      have q : cl = ys := Option.some.inj q
      subst q
      exact r
  inj := fun i j hi hj q => by
    have key : ∀ k, k < o.n → o.m k ≠ p := fun k hk => by
      obtain ⟨_, b⟩ := w.celS hk
      exact ne_of_none b h
    have q : (if i = o.n then p else o.m i) = (if j = o.n then p else o.m j) := q
    have hi : i < o.n + 1 := hi
    have hj : j < o.n + 1 := hj
    by_cases ci : i = o.n
    · by_cases cj : j = o.n
      · rw [ci, cj]
      · rw [if_pos ci, if_neg cj] at q
        exact absurd q.symm (key j (by omega))
    · by_cases cj : j = o.n
      · rw [if_neg ci, if_pos cj] at q
        exact absurd q (key i (by omega))
      · rw [if_neg ci, if_neg cj] at q
        exact w.inj i j (by omega) (by omega) q
theorem more_ext (w : Wd K o H st) {p : Addr} {u : HO} (h : H p = none) : Ext o H (o.more p) (upd H p u) where
  sub := more_sub o p
  new := fun a x q n => by
    have q : o.F a = some x := q
    rw [n] at q
    cases q
  cel := fun i h1 h2 => by
    have h2 : i < o.n + 1 := h2
    have e : i = o.n := by omega
    show H (if i = o.n then p else o.m i) = none
    rw [if_pos e]
    exact h
  keep := fun a x q _ => by
    rw [upd_ne (ne_of_none q h)]
    exact q
/-- a cell is changed -/
theorem cell_wd (w : Wd K o H st) {i : Nat} {x : HO} {cl : Cel} (hi : i < o.n) (z : o.F (o.m i) = none) (r : CelOk K o (upd H (o.m i) x) (o.m i) cl) : Wd K o (upd H (o.m i) x) (st.set i cl) where
  n := by rw [List.length_set]; exact w.n
  sub := fun a x q => by
    rw [upd_ne (ne_of_none q z)]
    exact w.sub a x q
  cel := fun j ys q => by
    by_cases e : i = j
    · subst e
      rw [List.getElem?_set_self (by rw [← w.n]; exact hi)] at q
      have q : cl = ys := Option.some.inj q
      subst q
      exact r
    · rw [List.getElem?_set_ne e] at q
      have k := w.cel j ys q
      have hj : j < o.n := by rw [w.n]; exact (List.getElem?_eq_some_iff.mp q).1
      exact k.move (.refl o) (fun z => z) fun y z => by rw [upd_ne (fun z => e (w.inj j i hj hi z).symm)]; exact z
  inj := w.inj
theorem cell_ext (w : Wd K o H st) {i : Nat} {u : HO} (hi : i < o.n) : Ext o H o (upd H (o.m i) u) where
  sub := .refl o
  new := fun a x q n => by rw [n] at q; cases q
  cel := fun i h1 h2 => absurd h2 (Nat.not_lt.mpr h1)
  keep := fun a x q n => by
    rw [upd_ne (n i hi)]
    exact q
/-- the heap gains something that nobody knows of -/
theorem Wd.grow (w : Wd K o H st) (h : ∀ a u, H a = some u → H1 a = some u) : Wd K o H1 st :=
  ⟨w.n, fun a u q => h a u (w.sub a u q), fun i xs q => (w.cel i xs q).move (.refl o) (fun z => z) fun u z => h _ _ z, w.inj⟩
theorem Ext.grow (h : ∀ a u, H a = some u → H1 a = some u) : Ext o H o H1 :=
  ⟨.refl o, fun a u q n => (by rw [q] at n; cases n), fun i a b => absurd b (Nat.not_lt.mpr a), fun a u q _ => h a u q⟩
end
/-! ### the names -/
structure LocOk (K : PySem.W.Frag) (o : Wo) (s : L2.St) (H : Hp) (r : REnv) : Prop where
  len : s.length = r.length
  val : ∀ (i : Nat) d, r[i]? = some (Slot.val d) → ∃ v, s[i]? = some (some v) ∧ Rep K o v d
  own : ∀ (i : Nat) xs, r[i]? = some (Slot.own xs) → ∃ p vs, s[i]? = some (some (V.ref p)) ∧ H p = some (.lst vs) ∧ o.F p = none ∧ (∀ j, j < o.n → p ≠ o.m j) ∧ Reps K o vs xs
  inj : ∀ (i j : Nat) xs ys p, r[i]? = some (Slot.own xs) → r[j]? = some (Slot.own ys) → s[i]? = some (some (V.ref p)) → s[j]? = some (some (V.ref p)) → i = j
theorem LocOk.ext {K : PySem.W.Frag} {o o1 : Wo} {s : L2.St} {H H1 : Hp} {r : REnv} (l : LocOk K o s H r) (e : Ext o H o1 H1) : LocOk K o1 s H1 r where
  len := l.len
  val := fun i d q => let ⟨v, a, b⟩ := l.val i d q; ⟨v, a, b.mono e.sub⟩
  own := fun i xs q => by
    obtain ⟨p, vs, a, b, c, d, f⟩ := l.own i xs q
    refine ⟨p, vs, a, e.keep p _ b d, ?_, fun j hj z => ?_, f.mono e.sub⟩
    · cases z : o1.F p with
      | none => rfl
      | some u =>
        rw [e.new p u z c] at b
        cases b
    · by_cases k : j < o.n
      · exact d j k (by rw [z, e.sub.m j k])
      · have := e.cel j (Nat.not_lt.mp k) hj
        rw [← z, b] at this
        cases this
  inj := l.inj
/-! ### readings by plain meanings -/
/-- how an exception stands in the heap: its class, its dict -/
def XRep (K : PySem.W.Frag) (o : Wo) (H : Hp) (cls : Value) (d : Option Addr) (x : D) : Prop := ∃ c ns ds, x = .obj c ns ds ∧ cls = .ref (He.ga K c) ∧
  ((ns = [] ∧ ds = [] ∧ d = none) ∨ ∃ dd vs, d = some dd ∧ H dd = some (.xd (ns.zip vs)) ∧ ns.length = vs.length ∧ Reps K o vs ds)
/-- what is wished of an exception -/
def OutX (K : PySem.W.Frag) (E : XK) (o : Wo) (H : Hp) (x : D) (st : Store) : Prop := ∀ cls d o' H', Wd K o' H' st → Ext o H o' H' → XRep K o' H' cls d x → E cls d H'
def OutR {α : Type} (P : α → Store → Prop) (Z : D → Store → Prop) : Res α → Prop
  | .ok a st => P a st
  | .exc x st => Z x st
  | .bad => False
theorem OutR.bx {α β : Type} {P : β → Store → Prop} {P' : α → Store → Prop} {Z Z' : D → Store → Prop} {x : Res α} {f : α → Store → Res β} (h : OutR P Z (x.bind f)) (hz : ∀ y st, Z y st → Z' y st) (k : ∀ a st1, x = .ok a st1 → OutR P Z (f a st1) → P' a st1) : OutR P' Z' x := by
  cases x with
  | ok a s => exact k a s rfl h
  | exc y s => exact hz y s h
  | bad => exact h
/-- one after the other: what the first one raises is raised -/
theorem OutR.b {α β : Type} {P : β → Store → Prop} {P' : α → Store → Prop} {Z : D → Store → Prop} {x : Res α} {f : α → Store → Res β} (h : OutR P Z (x.bind f)) (k : ∀ a st1, x = .ok a st1 → OutR P Z (f a st1) → P' a st1) : OutR P' Z x := h.bx (fun _ _ z => z) k
theorem OutR.lift {α : Type} {P : α → Store → Prop} {Z : D → Store → Prop} {x : Option α} {st : Store} (h : OutR P Z (DS.lift x st)) : ∃ a, x = some a ∧ P a st := by
  cases x with
  | some a => exact ⟨a, rfl, h⟩
  | none => exact h.elim
theorem OutR.liftB {α β : Type} {P : β → Store → Prop} {Z : D → Store → Prop} {x : Option α} {st : Store} {f : α → Store → Res β} (h : OutR P Z ((DS.lift x st).bind f)) : ∃ a, x = some a ∧ OutR P Z (f a st) := by
  cases x with
  | some a => exact ⟨a, rfl, h⟩
  | none => exact h.elim
theorem OutR.mono {α : Type} {P P' : α → Store → Prop} {Z Z' : D → Store → Prop} {x : Res α} (h : OutR P Z x) (hp : ∀ a st, P a st → P' a st) (hz : ∀ y st, Z y st → Z' y st) : OutR P' Z' x := by
  cases x with
  | ok a s => exact hp a s h
  | exc y s => exact hz y s h
  | bad => exact h
section
variable (K : PySem.W.Frag) (E : XK)
abbrev OutD (o : Wo) (H : Hp) (r : Res D) (Q : V → Hp → Prop) : Prop := OutR (fun d st => ∀ v o' H', Wd K o' H' st → Ext o H o' H' → Rep K o' v d → Q v H') (OutX K E o H) r
abbrev OutB (o : Wo) (H : Hp) (r : Res Bool) (Q : Bool → Hp → Prop) : Prop := OutR (fun b st => ∀ o' H', Wd K o' H' st → Ext o H o' H' → Q b H') (OutX K E o H) r
abbrev OutA (o : Wo) (H : Hp) (r : Res (List D)) (Q : List V → Hp → Prop) : Prop := OutR (fun ds st => ∀ vs o' H', Wd K o' H' st → Ext o H o' H' → Reps K o' vs ds → Q vs H') (OutX K E o H) r
def tD (f : REnv → Store → Res D) : TE := fun s H Q => ∃ o r st, Wd K o H st ∧ LocOk K o s H r ∧ OutD K E o H (f r st) Q
def tDB (f : REnv → Store → Res Bool) : TT := fun s H Q => ∃ o r st, Wd K o H st ∧ LocOk K o s H r ∧ OutB K E o H (f r st) Q
def tDA (f : REnv → Store → Res (List D)) : TA := fun s H Q => ∃ o r st, Wd K o H st ∧ LocOk K o s H r ∧ OutA K E o H (f r st) Q
end
section
variable {K : PySem.W.Frag} {E : XK} {o o1 : Wo} {H H1 : Hp} {st st1 : Store}
theorem OutX.later {x : D} (h : OutX K E o H x st) (w1 : Wd K o1 H1 st1) (e : Ext o H o1 H1) : OutX K E o1 H1 x st := fun cls d o' H' w' e' r => h cls d o' H' w' (e.trans w1 e') r
/-- what is wanted later, from a later state -/
theorem OutD.later {r : Res D} {Q : V → Hp → Prop} (h : OutD K E o H r Q) (w1 : Wd K o1 H1 st1) (e : Ext o H o1 H1) : OutD K E o1 H1 r Q :=
  h.mono (fun _ _ k v o' H' w' e' q => k v o' H' w' (e.trans w1 e') q) fun _ _ z => z.later w1 e
theorem OutB.later {r : Res Bool} {Q : Bool → Hp → Prop} (h : OutB K E o H r Q) (w1 : Wd K o1 H1 st1) (e : Ext o H o1 H1) : OutB K E o1 H1 r Q :=
  h.mono (fun _ _ k o' H' w' e' => k o' H' w' (e.trans w1 e')) fun _ _ z => z.later w1 e
theorem OutA.later {r : Res (List D)} {Q : List V → Hp → Prop} (h : OutA K E o H r Q) (w1 : Wd K o1 H1 st1) (e : Ext o H o1 H1) : OutA K E o1 H1 r Q :=
  h.mono (fun _ _ k v o' H' w' e' q => k v o' H' w' (e.trans w1 e') q) fun _ _ z => z.later w1 e
end
/-- the least that a context takes -/
def wx (X : Cx) : XK := fun cls d H => ∀ u s', XE X (fun c' d' _ H' => c' = cls ∧ d' = d ∧ H' = H) u s' → X.xe u s'
theorem wx_takes (X : Cx) : Takes X (fun cls d _ H => wx X cls d H) := fun u s' ⟨a, B, sI, pins, σ, H, cls, d, e, I, nb, up, sky, na, os, ag, w⟩ => w u s' ⟨a, B, sI, pins, σ, H, cls, d, e, I, nb, up, sky, na, os, ag, rfl, rfl, rfl⟩
theorem wx_of {X : Cx} {E : XK} (tk : Takes X (fun cls d _ H => E cls d H)) {cls : Value} {d : Option Addr} {H : Hp} (h : E cls d H) : wx X cls d H := fun u s' ⟨a, B, sI, pins, σ, H', cls', d', e, I, nb, up, sky, na, os, ag, e1, e2, e3⟩ => by
  subst e1 e2 e3
  exact tk u s' ⟨a, B, sI, pins, σ, H', cls', d', e, I, nb, up, sky, na, os, ag, h⟩
theorem wx_call {X : Cx} {pins : List (Addr × Obj)} {σ : L2.St} {H : Hp} {s s' : Shared} {e : Value} (I : Inv X pins σ H s) (c : L2.CX X.prog X.w X.stack H s (wx X) e s') : X.xe e s' := passes_call (wx_takes X) (fun _ _ _ _ h => h) pins σ H s e s' I c
theorem pe_by {X : Cx} {e : Expr} {t t' : TE} (h : PE X e t) (i : ∀ s H Q, t' s H Q → t s H Q) : PE X e t' := ⟨fun pins s σ H Q I q => h.run pins s σ H Q I (i _ _ _ q)⟩
theorem pt_by {X : Cx} {e : Expr} {t t' : TT} (h : PT X e t) (i : ∀ s H Q, t' s H Q → t s H Q) : PT X e t' := ⟨fun pins s σ H Q I q => h.run pins s σ H Q I (i _ _ _ q)⟩
theorem pa_by {X : Cx} {e : List Expr} {t t' : TA} (h : PA X e t) (i : ∀ s H Q, t' s H Q → t s H Q) : PA X e t' := ⟨fun pos pins s σ H Q I q => h.run pos pins s σ H Q I (i _ _ _ q)⟩
theorem ps_by {X : Cx} {e : Stmt} {t t' : TS} (h : PS X e t) (i : ∀ D s H, t' D s H → t D s H) : PS X e t' := ⟨fun pins s σ H D I q => h.run pins s σ H D I (i _ _ _ q)⟩
theorem pss_by {X : Cx} {e : List Stmt} {t t' : TS} (h : PSs X e t) (i : ∀ D s H, t' D s H → t D s H) : PSs X e t' := ⟨fun pins s σ H D I q => h.run pins s σ H D I (i _ _ _ q)⟩
end DS
namespace DS
open PySem L2
/-! ## operations by plain values -/
mutual
def toP : D → Option PyData
  | .non => some .none
  | .bl b => some (.bool b)
  | .int i => some (.int i)
  | .str x => some (.str x)
  | .tup xs => (toPs xs).map .tuple
  | .lst xs => (toPs xs).map .list
  | .emp => some (.dict [])
  | .scr _ => none
  | .cell _ => none
  | .ty _ => none
  | .obj _ _ _ => none
  | .cls _ => none
def toPs : List D → Option (List PyData)
  | [] => some []
  | x :: xs => match toP x, toPs xs with
    | some p, some ps => some (p :: ps)
    | _, _ => none
end
def dEqv (neg : Bool) (a b : D) : Option D := match toP a, toP b with
  | some p, some q => if SeqAt.shaped p = true ∧ SeqAt.shaped q = true then some (.bl (neg ^^ PyData.eqv p q)) else none
  | _, _ => none
def dEq : D → D → Option D
  | .str x, .str y => some (.bl (x == y))
  | a, b => dEqv false a b
def dNe : D → D → Option D
  | .str x, .str y => some (.bl (!(x == y)))
  | a, b => dEqv true a b
def dAdd : D → D → Option D
  | .int i, .int j => some (.int (i + j))
  | .str x, .str y => if x.length + y.length ≤ sizeLine then some (.str (x ++ y)) else none
  | .lst xs, .lst ys => if xs.length + ys.length ≤ sizeLine then some (.lst (xs ++ ys)) else none
  | .tup xs, .tup ys => if xs.length + ys.length ≤ sizeLine then some (.tup (xs ++ ys)) else none
  | _, _ => none
def dSub : D → D → Option D
  | .int i, .int j => some (.int (i - j))
  | _, _ => none
def dMul : D → D → Option D
  | .int i, .int j => if ((-(2 ^ 64) < i ∧ i < 2 ^ 64) ∨ (-(2 ^ 64) < j ∧ j < 2 ^ 64)) ∨ i.natAbs.log2 + j.natAbs.log2 < 1000000 then some (.int (i * j)) else none
  | .lst xs, .int k => if -(2 ^ 63) ≤ k ∧ k < 2 ^ 63 ∧ xs.length * k.toNat ≤ sizeLine then some (.lst (List.replicate k.toNat xs).flatten) else none
  | _, _ => none
def dFdiv : D → D → Option D
  | .int i, .int j => if 0 < j ∧ j.natAbs.log2 < 9000 then some (.int (i / j)) else none
  | _, _ => none
def dMod : D → D → Option D
  | .int i, .int j => if 0 < j then some (.int (i % j)) else none
  | _, _ => none
def dPow : D → D → Option D
  | .int i, .int j => if 0 ≤ j ∧ j ≤ 1000000 ∧ i.natAbs < 2 ^ 64 then some (.int (i ^ j.toNat)) else none
  | _, _ => none
def dLt : D → D → Option D
  | .int i, .int j => some (.bl (decide (i < j)))
  | _, _ => none
def dLe : D → D → Option D
  | .int i, .int j => some (.bl (decide (i ≤ j)))
  | _, _ => none
def dGt : D → D → Option D
  | .int i, .int j => some (.bl (decide (j < i)))
  | _, _ => none
def dGe : D → D → Option D
  | .int i, .int j => some (.bl (decide (j ≤ i)))
  | _, _ => none
def isNon : D → Bool
  | .non => true
  | _ => false
def dIs : D → D → Option D
  | a, .non => some (.bl (isNon a))
  | _, _ => none
def dIsNot : D → D → Option D
  | a, .non => some (.bl (!isNon a))
  | _, _ => none
def dNeg : D → Option D
  | .int i => some (.int (-i))
  | _ => none
/-- the cells' own items are read too -/
def dIx : D → D → Store → Option D
  | .tup xs, .int i, _ => atI xs i
  | .lst xs, .int i, _ => atI xs i
  | .scr ns, .int i, _ => (atI ns i).map .int
  | .cell c, .int i, st => match st[c]? with
    | some (.lst xs) => atI xs i
    | _ => none
  | .str x, .int i, _ => if x.length ≤ sizeLine then (atI x.cps.toList i).map fun c => .str ⟨#[c]⟩ else none
  | _, _, _ => none
def cutD (xs : List D) (lo hi : Option Int) : List D := (xs.drop (HT.sIx xs.length 0 lo)).take (HT.sIx xs.length xs.length hi - HT.sIx xs.length 0 lo)
def dSl : D → Option Int → Option Int → Option D
  | .lst xs, lo, hi => some (.lst (cutD xs lo hi))
  | .scr ns, lo, hi => some (.lst (cutD (ns.map .int) lo hi))
  | .tup xs, lo, hi => some (.tup (cutD xs lo hi))
  | .str z, lo, hi => if z.length ≤ sizeLine then some (.str (cutS z lo hi)) else none
  | _, _, _ => none
section
variable {K : PySem.W.Frag}
/-- a value comes, the store stands -/
def Ret (K : PySem.W.Frag) (o : Wo) (H : Hp) (st : Store) (d : D) (Q : VK) : Prop := ∀ v o' H', Wd K o' H' st → Ext o H o' H' → Rep K o' v d → Q v H'
theorem Ret.same {o : Wo} {H : Hp} {st : Store} {d : D} {Q : VK} (h : Ret K o H st d Q) (w : Wd K o H st) {v : V} (r : Rep K o v d) : Q v H := h v o H w (.refl o H) r
theorem Ret.lst {o : Wo} {H : Hp} {st : Store} {ds : List D} {Q : VK} (h : Ret K o H st (.lst ds) Q) (w : Wd K o H st) {vs : List V} (r : Reps K o vs ds) {p : Addr} (n : H p = none) : Q (.ref p) (upd H p (.lst vs)) :=
  h _ (o.put p (.lst vs)) _ (put_wd w n) (put_ext w n) (.lst upd_same (r.mono (put_sub w n)))
theorem Ret.tup {o : Wo} {H : Hp} {st : Store} {ds : List D} {Q : VK} (h : Ret K o H st (.tup ds) Q) (w : Wd K o H st) {vs : List V} (r : Reps K o vs ds) {p : Addr} (n : H p = none) : Q (.ref p) (upd H p (.tup vs)) :=
  h _ (o.put p (.tup vs)) _ (put_wd w n) (put_ext w n) (.tup (SqT.of upd_same) (r.mono (put_sub w n)))
def rD2 (K : PySem.W.Frag) (g : D → D → Option D) : R2 := fun x y H Q => ∃ o st d e r, Wd K o H st ∧ Rep K o x d ∧ Rep K o y e ∧ g d e = some r ∧ Ret K o H st r Q
def rD1 (K : PySem.W.Frag) (g : D → Option D) : V → Hp → VK → Prop := fun x H Q => ∃ o st d r, Wd K o H st ∧ Rep K o x d ∧ g d = some r ∧ Ret K o H st r Q
def rDs (K : PySem.W.Frag) (g : List D → Option D) : List V → Hp → VK → Prop := fun xs H Q => ∃ o st ds r, Wd K o H st ∧ Reps K o xs ds ∧ g ds = some r ∧ Ret K o H st r Q
theorem oby {X : Cx} {f : Value → Value → Sem Value} {r r' : R2} (h : OpR X f r) (i : ∀ x y H Q, r' x y H Q → r x y H Q) : OpR X f r' := fun pins s σ H x y v u Q I rx ry q => h pins s σ H x y v u Q I rx ry (i _ _ _ _ q)
theorem cby {X : Cx} {f : Value} {r r' : List V → Hp → VK → Prop} (h : CallR X f r) (i : ∀ x H Q, r' x H Q → r x H Q) : CallR X f r' := fun pins s σ H x u Q I rx q => h pins s σ H x u Q I rx (i _ _ _ q)
theorem uby {X : Cx} {f : Value → Sem Value} {r r' : V → Hp → VK → Prop} (h : UnR X f r) (i : ∀ x H Q, r' x H Q → r x H Q) : UnR X f r' := fun pins s σ H x u Q I rx q => h pins s σ H x u Q I rx (i _ _ _ q)
/-- two ints -/
theorem rd2_int {g : D → D → Option D} {C : Int → Int → Prop} {q : Int → Int → V} {qd : Int → Int → D} (h : ∀ d e r, g d e = some r → ∃ i j, d = .int i ∧ e = .int j ∧ C i j ∧ r = qd i j) (hq : ∀ o i j, Rep K o (q i j) (qd i j)) :
    ∀ x y H Q, rD2 K g x y H Q → rI C q x y H Q := fun x y H Q ⟨o, st, d, e, r, w, rx, ry, eg, k⟩ => by
  obtain ⟨i, j, rfl, rfl, c, rfl⟩ := h d e r eg
  cases rx
  cases ry
  exact ⟨i, j, rfl, rfl, c, k.same w (hq o i j)⟩
theorem rd2_int0 {g : D → D → Option D} {q : Int → Int → V} {qd : Int → Int → D} (h : ∀ d e r, g d e = some r → ∃ i j, d = .int i ∧ e = .int j ∧ r = qd i j) (hq : ∀ o i j, Rep K o (q i j) (qd i j)) :
    ∀ x y H Q, rD2 K g x y H Q → rI0 q x y H Q := fun x y H Q ⟨o, st, d, e, r, w, rx, ry, eg, k⟩ => by
  obtain ⟨i, j, rfl, rfl, rfl⟩ := h d e r eg
  cases rx
  cases ry
  exact ⟨i, j, rfl, rfl, k.same w (hq o i j)⟩
variable {X : Cx}
theorem bo_sub : OpR X (binaryOp .Sub) (rD2 X.K dSub) := oby op_sub (rd2_int0 (qd := fun i j => .int (i - j)) (fun d e r h => by
  unfold dSub at h; split at h
  · exact ⟨_, _, rfl, rfl, (Option.some.inj h).symm⟩
  · cases h) fun o i j => .int _)
theorem bo_lt : OpR X (compareOp .Lt) (rD2 X.K dLt) := oby op_lt (rd2_int0 (qd := fun i j => .bl (decide (i < j))) (fun d e r h => by
  unfold dLt at h; split at h
  · exact ⟨_, _, rfl, rfl, (Option.some.inj h).symm⟩
  · cases h) fun o i j => .bl _)
theorem bo_le : OpR X (compareOp .LtE) (rD2 X.K dLe) := oby op_le (rd2_int0 (qd := fun i j => .bl (decide (i ≤ j))) (fun d e r h => by
  unfold dLe at h; split at h
  · exact ⟨_, _, rfl, rfl, (Option.some.inj h).symm⟩
  · cases h) fun o i j => .bl _)
theorem bo_gt : OpR X (compareOp .Gt) (rD2 X.K dGt) := oby op_gt (rd2_int0 (qd := fun i j => .bl (decide (j < i))) (fun d e r h => by
  unfold dGt at h; split at h
  · exact ⟨_, _, rfl, rfl, (Option.some.inj h).symm⟩
  · cases h) fun o i j => .bl _)
theorem bo_ge : OpR X (compareOp .GtE) (rD2 X.K dGe) := oby op_ge (rd2_int0 (qd := fun i j => .bl (decide (j ≤ i))) (fun d e r h => by
  unfold dGe at h; split at h
  · exact ⟨_, _, rfl, rfl, (Option.some.inj h).symm⟩
  · cases h) fun o i j => .bl _)
theorem bo_fdiv : OpR X (binaryOp .FloorDiv) (rD2 X.K dFdiv) := oby op_fdivW (rd2_int (qd := fun i j => .int (i / j)) (fun d e r h => by
  unfold dFdiv at h; split at h
  · split at h
    · rename_i c
      exact ⟨_, _, rfl, rfl, c, (Option.some.inj h).symm⟩
    · cases h
  · cases h) fun o i j => .int _)
theorem bo_mod : OpR X (binaryOp .Mod) (rD2 X.K dMod) := oby op_mod (rd2_int (qd := fun i j => .int (i % j)) (fun d e r h => by
  unfold dMod at h; split at h
  · split at h
    · rename_i c
      exact ⟨_, _, rfl, rfl, c, (Option.some.inj h).symm⟩
    · cases h
  · cases h) fun o i j => .int _)
theorem bo_pow : OpR X (binaryOp .Pow) (rD2 X.K dPow) := oby op_pow (rd2_int (qd := fun i j => .int (i ^ j.toNat)) (fun d e r h => by
  unfold dPow at h; split at h
  · split at h
    · rename_i c
      exact ⟨_, _, rfl, rfl, c, (Option.some.inj h).symm⟩
    · cases h
  · cases h) fun o i j => .int _)
theorem bo_neg : UnR X (unaryOp .USub) (rD1 X.K dNeg) := uby un_neg fun x H Q ⟨o, st, d, r, w, rx, eg, k⟩ => by
  unfold dNeg at eg
  split at eg
  · cases rx
    cases eg
    exact ⟨_, rfl, k.same w (.int _)⟩
  · cases eg
theorem sqT_up {o : Wo} {H : Hp} {st : Store} (w : Wd K o H st) {a : Addr} {vs : List V} (h : SqT K o.F a vs) : SqT K H a vs := by
  rcases h with (h | ⟨x, h⟩) | h
  · exact .inl (.inl (w.sub _ _ h))
  · exact .inl (.inr ⟨x, w.sub _ _ h⟩)
  · exact .inr h
theorem bo_add : OpR X (binaryOp .Add) (rD2 X.K dAdd) := oby (((op_add.or op_add_str).or op_cat).or op_catA) fun x y H Q ⟨o, st, d, e, r, w, rx, ry, eg, k⟩ => by
  unfold dAdd at eg
  split at eg
  · cases rx; cases ry; cases eg
    exact .inl (.inl (.inl ⟨_, _, rfl, rfl, k.same w (.int _)⟩))
  · split at eg
    · rename_i c
      cases rx; cases ry; cases eg
      exact .inl (.inl (.inr ⟨_, _, rfl, rfl, c, k.same w (.str _)⟩))
    · cases eg
  · split at eg
    · rename_i c
      cases eg
      cases rx with
      | lst h1 r1 =>
        cases ry with
        | lst h2 r2 =>
          exact .inl (.inr ⟨_, _, _, _, rfl, rfl, w.sub _ _ h1, w.sub _ _ h2, by rw [r1.len, r2.len]; exact c, fun p n => k.lst w (r1.app r2) n⟩)
    · cases eg
  · split at eg
    · rename_i c
      cases eg
      cases rx with
      | tup h1 r1 =>
        cases ry with
        | tup h2 r2 =>
          refine .inr ⟨_, _, _, _, rfl, rfl, sqT_up w h1, sqT_up w h2, by rw [r1.len, r2.len]; exact c, fun z => ?_, fun _ z => ?_, fun _ _ p n => k.tup w (r1.app r2) n⟩
          · subst z
            cases r1
            exact k.same w (.tup h2 r2)
          · subst z
            cases r2
            rw [List.append_nil] at k
            exact k.same w (.tup h1 r1)
    · cases eg
  · cases eg
theorem bo_mul : OpR X (binaryOp .Mult) (rD2 X.K dMul) := oby ((op_mul.or op_mulW).or op_rep) fun x y H Q ⟨o, st, d, e, r, w, rx, ry, eg, k⟩ => by
  unfold dMul at eg
  split at eg
  · split at eg
    · rename_i c
      cases rx; cases ry; cases eg
      rcases c with c | c
      · exact .inl (.inl ⟨_, _, rfl, rfl, c, k.same w (.int _)⟩)
      · exact .inl (.inr ⟨_, _, rfl, rfl, c, k.same w (.int _)⟩)
    · cases eg
  · split at eg
    · rename_i c
      cases eg
      cases ry
      cases rx with
      | lst h1 r1 =>
        exact .inr ⟨_, _, _, rfl, rfl, w.sub _ _ h1, c.1, c.2.1, by rw [r1.len]; exact c.2.2, fun p n => k.lst w (r1.flat _) n⟩
    · cases eg
  · cases eg
theorem Rep.isNon {o : Wo} {v : V} {d : D} (r : Rep K o v d) : decide (v = V.non) = isNon d := by
  cases r <;> rfl
theorem bo_is : OpR X (compareOp .Is) (rD2 X.K dIs) := oby op_isN fun x y H Q ⟨o, st, d, e, r, w, rx, ry, eg, k⟩ => by
  unfold dIs at eg
  split at eg
  · cases eg
    cases ry
    exact ⟨rfl, k.same w (by rw [rx.isNon]; exact .bl _)⟩
  · cases eg
theorem bo_isNot : OpR X (compareOp .IsNot) (rD2 X.K dIsNot) := oby op_notN fun x y H Q ⟨o, st, d, e, r, w, rx, ry, eg, k⟩ => by
  unfold dIsNot at eg
  split at eg
  · cases eg
    cases ry
    exact ⟨rfl, k.same w (by rw [rx.isNon]; exact .bl _)⟩
  · cases eg
/-! ### data as the library reads it -/
theorem sqL_up {o : Wo} {H : Hp} {st : Store} (w : Wd K o H st) {a : Addr} {vs : List V} (h : SqL K o.F a vs) : SqL K H a vs := by
  rcases h with (h | ⟨x, h⟩) | h
  · exact .inl (.inl (w.sub _ _ h))
  · exact .inl (.inr ⟨x, w.sub _ _ h⟩)
  · exact .inr h
mutual
def hasL : PyData → Bool
  | .list _ => true
  | .tuple xs => hasLs xs
  | _ => false
def hasLs : List PyData → Bool
  | [] => false
  | x :: xs => hasL x || hasLs xs
end
section
variable {pins : List (Addr × Obj)} {σ : L2.St} {H : Hp} {s : Shared} {o : Wo} {st : Store}
mutual
theorem Rep.reads (I : Inv X pins σ H s) (w : Wd X.K o H st) : ∀ (d : D) (p : PyData) (v : V) (u : Value), Rep X.K o v d → toP d = some p → RelV v u → ∃ as, Reads s.heap u p as ∧ (hasL p = false → sysModules ∉ as)
  | .non, p, v, u, h, e, r => by
    simp only [toP, Option.some.injEq] at e
    subst e; cases h; cases r
    exact ⟨_, .none, fun _ => by simp⟩
  | .bl b, p, v, u, h, e, r => by
    simp only [toP, Option.some.injEq] at e
    subst e; cases h; cases r
    exact ⟨_, .bool b, fun _ => by simp⟩
  | .int b, p, v, u, h, e, r => by
    simp only [toP, Option.some.injEq] at e
    subst e; cases h
    obtain ⟨t, rfl⟩ := r
    exact ⟨_, .int b t, fun _ => by simp⟩
  | .str b, p, v, u, h, e, r => by
    simp only [toP, Option.some.injEq] at e
    subst e; cases h
    obtain ⟨t, rfl⟩ := r
    exact ⟨_, .str b t, fun _ => by simp⟩
  | .emp, p, v, u, h, e, r => by
    simp only [toP, Option.some.injEq] at e
    subst e
    cases h with
    | emp hF =>
      cases r
      obtain ⟨_, ns, vs, kv, ob, es, ep, e1, e2, e3, _, e4, _⟩ := I.hok _ _ (w.sub _ _ hF)
      cases kv
      have e5 : es.toList = [] := by
        cases es with
        | mk l =>
          cases l with
          | nil => rfl
          | cons x y => cases e4
      refine ⟨_, .dict (kvs := []) e1 e2.1 e3 (by rw [e5]; exact .nil) (by rw [e5]; exact .nil), fun _ => ?_⟩
      simp only [List.append_nil, List.mem_singleton]
      intro z
      rw [← z] at ns
      simp at ns
  | .tup ds, p, v, u, h, e, r => by
    simp only [toP, Option.map_eq_some_iff] at e
    obtain ⟨ps, e1, rfl⟩ := e
    cases h with
    | tup hs ha =>
      cases r
      obtain ⟨its, rv, ⟨ob, ho, hc, n, hd⟩, _⟩ := I.tuple (sqT_up w hs)
      obtain ⟨as, hr, hn⟩ := Reps.reads I w ds ps _ its ha e1 rv
      exact ⟨_, .tuple ho hc hd hr, fun z => hn (by simpa [hasL] using z)⟩
  | .lst ds, p, v, u, h, e, r => by
    simp only [toP, Option.map_eq_some_iff] at e
    obtain ⟨ps, e1, rfl⟩ := e
    cases h with
    | lst hs ha =>
      cases r
      obtain ⟨its, rv, ⟨ob, n, ho, hc, _, hd⟩, _⟩ := I.list (SqL.of (w.sub _ _ hs))
      obtain ⟨as, hr, hn⟩ := Reps.reads I w ds ps _ its ha e1 rv
      exact ⟨_, .list ho hc hd hr, fun z => by simp [hasL] at z⟩
  | .scr _, p, v, u, h, e, r => by simp [toP] at e
  | .cell _, p, v, u, h, e, r => by simp [toP] at e
  | .ty _, p, v, u, h, e, r => by simp [toP] at e
  | .obj _ _ _, p, v, u, h, e, r => by simp [toP] at e
  | .cls _, p, v, u, h, e, r => by simp [toP] at e
theorem Reps.reads (I : Inv X pins σ H s) (w : Wd X.K o H st) : ∀ (ds : List D) (ps : List PyData) (vs : List V) (us : List Value), Reps X.K o vs ds → toPs ds = some ps → Vals vs us → ∃ as, ReadsAll s.heap us ps as ∧ (hasLs ps = false → sysModules ∉ as)
  | [], ps, vs, us, h, e, r => by
    simp only [toPs, Option.some.injEq] at e
    subst e; cases h; cases r
    exact ⟨_, .nil, fun z => by simp⟩
  | d :: ds, ps, vs, us, h, e, r => by
    simp only [toPs] at e
    split at e
    · rename_i p qs e1 e2
      cases e
      cases h with
      | cons h1 h2 =>
        cases r with
        | cons r1 r2 =>
          obtain ⟨as, q1, n1⟩ := Rep.reads I w d p _ _ h1 e1 r1
          obtain ⟨bs, q2, n2⟩ := Reps.reads I w ds qs _ _ h2 e2 r2
          refine ⟨_, .cons q1 q2, fun z => ?_⟩
          simp only [hasLs, Bool.or_eq_false_iff] at z
          simp only [List.mem_append, not_or]
          exact ⟨n1 z.1, n2 z.2⟩
    · cases e
end
end
theorem bo_eqv {pins : List (Addr × Obj)} {s : Shared} {σ : L2.St} {H : Hp} {x y : V} {v u : Value} {Q : VK} (hu : X.A.units + 64 < cLine) (I : Inv X pins σ H s) (rx : RelV x v) (ry : RelV y u) {o : Wo} {st : Store} {d e r : D} (w : Wd X.K o H st) (r1 : Rep X.K o x d) (r2 : Rep X.K o y e) (k : Ret X.K o H st r Q) :
    (dEqv false d e = some r → wpAny (model X.prog X.w) X.A (compareOp .Eq v u) (EP X pins σ Q) X.xe s) ∧ (dEqv true d e = some r → wpAny (model X.prog X.w) X.A (compareOp .NotEq v u) (EP X pins σ Q) X.xe s) := by
  refine ⟨fun eg => ?_, fun eg => ?_⟩
  all_goals
    unfold dEqv at eg
    split at eg
    · rename_i p q e1 e2
      split at eg
      · rename_i c
        cases eg
        obtain ⟨as, h1, _⟩ := Rep.reads I w d p x v r1 e1 rx
        obtain ⟨bs, h2, _⟩ := Rep.reads I w e q y u r2 e2 ry
        first
          | exact SeqAt.compareEq_shaped h1 h2 c.1 c.2 hu ⟨.bl _, H, I, by cases PyData.eqv p q <;> rfl, k.same w (.bl _)⟩
          | exact SeqAt.compareNe_shaped h1 h2 c.1 c.2 hu ⟨.bl _, H, I, by cases PyData.eqv p q <;> rfl, k.same w (.bl _)⟩
      · cases eg
    · cases eg
theorem bo_eq (hu : X.A.units + 64 < cLine) : OpR X (compareOp .Eq) (rD2 X.K dEq) := fun pins s σ H x y v u Q I rx ry ⟨o, st, d, e, r, w, r1, r2, eg, k⟩ => by
  unfold dEq at eg
  split at eg
  · cases eg; cases r1; cases r2
    refine op_eq pins s σ H _ _ v u Q I rx ry ⟨rfl, ?_⟩
    rw [dec_str]
    exact k.same w (.bl _)
  · exact (bo_eqv hu I rx ry w r1 r2 k).1 eg
theorem bo_ne (hu : X.A.units + 64 < cLine) : OpR X (compareOp .NotEq) (rD2 X.K dNe) := fun pins s σ H x y v u Q I rx ry ⟨o, st, d, e, r, w, r1, r2, eg, k⟩ => by
  unfold dNe at eg
  split at eg
  · cases eg; cases r1; cases r2
    refine op_ne pins s σ H _ _ v u Q I rx ry ⟨rfl, ?_⟩
    rw [dec_str]
    exact k.same w (.bl _)
  · exact (bo_eqv hu I rx ry w r1 r2 k).2 eg
end
end DS
namespace DS
open PySem L2
/-! ## each construct's reading, by its plain meaning -/
section
variable {X : Cx} {C : FEnv} {a b c : Expr} {sa sb sc : SE} {pos : Pos}
abbrev HE (X : Cx) (C : FEnv) (e : Expr) (s : SE) : Prop := PE X e (tD X.K (wx X) (s C))
abbrev HT (X : Cx) (C : FEnv) (e : Expr) (s : ST) : Prop := PT X e (tDB X.K (wx X) (s C))
abbrev HA (X : Cx) (C : FEnv) (e : List Expr) (s : SA) : Prop := PA X e (tDA X.K (wx X) (s C))
theorem h_var {i : Nat} {x : Str} (hN : X.N[i]? = some x) (hv : Vis X.env.scope x) (h1 : (x == ("__debug__" : Str)) = false) (h2 : (x == ("__classdict__" : Str)) = false) : HE X C (.Name x pos) (eVar i) :=
  pe_by (pe_var hN hv h1 h2) fun s H Q ⟨o, r, st, w, l, h⟩ => by
    unfold eVar at h
    split at h
    · rename_i d e
      obtain ⟨v, e1, e2⟩ := l.val i d e
      exact ⟨v, e1, h v o H w (.refl o H) e2⟩
    · exact h.elim
theorem h_int {i : Int} {j : Nat} : HE X C (.Constant (.int i) j pos) (eC (.int i)) := pe_by pe_int fun s H Q ⟨o, r, st, w, l, h⟩ => h _ o H w (.refl o H) (.int i)
theorem h_bl {i : Bool} {j : Nat} : HE X C (.Constant (.bool i) j pos) (eC (.bl i)) := pe_by pe_bl fun s H Q ⟨o, r, st, w, l, h⟩ => h _ o H w (.refl o H) (.bl i)
theorem h_non {j : Nat} : HE X C (.Constant .none j pos) (eC .non) := pe_by pe_non fun s H Q ⟨o, r, st, w, l, h⟩ => h _ o H w (.refl o H) .non
theorem h_str {i : Str} {j : Nat} : HE X C (.Constant (.str i) j pos) (eC (.str i)) := pe_by pe_str fun s H Q ⟨o, r, st, w, l, h⟩ => h _ o H w (.refl o H) (.str i)
/-- two operands -/
theorem rd_bin {K : PySem.W.Frag} {E : XK} {g : D → D → Option D} {s : L2.St} {H : Hp} {Q : VK} (h : tD K E (eBin g sa sb C) s H Q) : tOp (rD2 K g) (tD K E (sa C)) (tD K E (sb C)) s H Q := by
  obtain ⟨o, r, st, w, l, h⟩ := h
  refine ⟨o, r, st, w, l, h.b fun d st1 e1 h x o1 H1 w1 x1 r1 => ⟨o1, r, st1, w1, l.ext x1, (OutD.later h w1 x1).b fun e st2 e2 h y o2 H2 w2 x2 r2 => ?_⟩⟩
  obtain ⟨z, e3, h⟩ := h.lift
  exact ⟨o2, st2, d, e, z, w2, r1.mono x2.sub, r2, e3, fun v o' H' w' x' q => h v o' H' w' (x2.trans w2 x') q⟩
theorem h_bin {op : Operator} {g : D → D → Option D} (ho : OpR X (binaryOp op) (rD2 X.K g)) (ha : HE X C a sa) (hb : HE X C b sb) : HE X C (.BinOp a op b pos) (eBin g sa sb) :=
  pe_by (pe_op ho ha hb) fun s H Q h => rd_bin h
theorem h_cmp {op : CmpOp} {g : D → D → Option D} (ho : OpR X (compareOp op) (rD2 X.K g)) (ha : HE X C a sa) (hb : HE X C b sb) (hm : behindInMarks op b = false) : HE X C (.Compare a [op] [b] pos) (eBin g sa sb) :=
  pe_by (pe_cmpR ho ha hb hm) fun s H Q h => rd_bin h
def Boolish (g : D → D → Option D) : Prop := ∀ d e r, g d e = some r → ∃ k, r = .bl k
theorem bin_bl {g : D → D → Option D} (hg : Boolish g) {r : REnv} {st st1 : Store} {d : D} (e1 : eBin g sa sb C r st = .ok d st1) : ∃ k, d = .bl k := by
  unfold eBin at e1
  generalize sa C r st = A at e1
  cases A with
  | ok d1 s1 =>
    have e1 : (sb C r s1).bind (fun e st => lift (g d1 e) st) = .ok d st1 := e1
    generalize sb C r s1 = B at e1
    cases B with
    | ok d2 s2 =>
      have e1 : lift (g d1 d2) s2 = .ok d st1 := e1
      cases z : g d1 d2 with
      | none => rw [z] at e1; cases e1
      | some y =>
        rw [z] at e1
        cases e1
        exact hg _ _ _ z
    | exc _ _ => cases e1
    | bad => cases e1
  | exc _ _ => cases e1
  | bad => cases e1
theorem h_tcmp {op : CmpOp} {g : D → D → Option D} (hg : Boolish g) (ho : OpR X (compareOp op) (rD2 X.K g)) (ha : HE X C a sa) (hb : HE X C b sb) (hm : behindInMarks op b = false) : HT X C (.Compare a [op] [b] pos) (tE (eBin g sa sb)) :=
  pt_by (pt_cmpR ho ha hb hm) fun s H Q ⟨o, r, st, w, l, h⟩ => by
    refine rd_bin ⟨o, r, st, w, l, h.b fun d st1 e1 h v o' H' w' x' q => ?_⟩
    obtain ⟨k, e2, h⟩ := h.lift
    obtain ⟨k', rfl⟩ := bin_bl hg e1
    cases q
    cases e2
    exact ⟨_, rfl, h o' H' w' x'⟩
theorem h_un {op : UnaryOp} {g : D → Option D} (ho : UnR X (unaryOp op) (rD1 X.K g)) (ha : HE X C a sa) : HE X C (.UnaryOp op a pos) (eUn g sa) :=
  pe_by (pe_un ho ha) fun s H Q ⟨o, r, st, w, l, h⟩ => by
    refine ⟨o, r, st, w, l, h.b fun d st1 e1 h x o1 H1 w1 x1 r1 => ?_⟩
    obtain ⟨z, e3, h⟩ := h.lift
    exact ⟨o1, st1, d, z, w1, r1, e3, fun v o' H' w' x' q => h v o' H' w' (x1.trans w1 x') q⟩
/-! ### truth -/
theorem Rep.tru {K : PySem.W.Frag} {o : Wo} {H : Hp} {st : Store} {v : V} {d : D} {k : Bool} (w : Wd K o H st) (r : Rep K o v d) (h : dTru d = some k) : TruV K v H k := by
  have emp : ∀ {vs : List V} {ds : List D}, Reps K o vs ds → (!vs.isEmpty) = !ds.isEmpty := fun r => by cases r <;> rfl
  cases r with
  | non => cases h; rfl
  | bl b => cases h; rfl
  | int i => cases h; rfl
  | str x =>
    have h : (if x.length ≤ sizeLine then some (x.length != 0) else none) = some k := h
    split at h
    · rename_i c
      cases h
      refine ⟨c, ?_⟩
      cases z : x.length <;> rfl
    · cases h
  | tup h1 h2 => cases h; exact .inr (.inl ⟨_, sqT_up w h1, (emp h2).symm⟩)
  | lst h1 h2 => cases h; exact .inl ⟨_, SqL.of (w.sub _ _ h1), (emp h2).symm⟩
  | emp _ => cases h
  | scr _ => cases h
  | cell _ => cases h
  | ty _ => cases h
  | obj _ _ _ _ => cases h
  | cls _ => cases h
theorem h_tru (ha : HE X C a sa) (he : ∀ whole, isTrue a X.env whole = (do let v ← whole; standAt a.pos; holding [v] (truthy v))) : HT X C a (tE sa) :=
  pt_by (pt_truth ha he) fun s H Q ⟨o, r, st, w, l, h⟩ => by
    refine ⟨o, r, st, w, l, h.b fun d st1 e1 h x o1 H1 w1 x1 r1 => ?_⟩
    obtain ⟨k, e2, h⟩ := h.lift
    exact ⟨k, r1.tru w1 e2, h o1 H1 w1 x1⟩
variable {ta tb tc : ST}
theorem h_tnot (ha : HT X C a ta) : HT X C (.UnaryOp .Not a pos) (tNt ta) :=
  pt_by (pt_not ha) fun s H Q ⟨o, r, st, w, l, h⟩ => ⟨o, r, st, w, l, h.b fun k st1 e1 h o1 H1 w1 x1 => h o1 H1 w1 x1⟩
theorem rd_an {s : L2.St} {H : Hp} {Q : Bool → Hp → Prop} {K : PySem.W.Frag} {E : XK} (h : tDB K E (tAn ta tb C) s H Q) : tAnd (tDB K E (ta C)) (tDB K E (tb C)) s H Q := by
  obtain ⟨o, r, st, w, l, h⟩ := h
  refine ⟨o, r, st, w, l, h.b fun k st1 e1 h o1 H1 w1 x1 => ?_⟩
  cases k with
  | true => exact iteT ⟨o1, r, st1, w1, l.ext x1, OutB.later h w1 x1⟩
  | false => exact iteF (h o1 H1 w1 x1)
theorem rd_or {s : L2.St} {H : Hp} {Q : Bool → Hp → Prop} {K : PySem.W.Frag} {E : XK} (h : tDB K E (tOr' ta tb C) s H Q) : tOr (tDB K E (ta C)) (tDB K E (tb C)) s H Q := by
  obtain ⟨o, r, st, w, l, h⟩ := h
  refine ⟨o, r, st, w, l, h.b fun k st1 e1 h o1 H1 w1 x1 => ?_⟩
  cases k with
  | true => exact iteT (h o1 H1 w1 x1)
  | false => exact iteF ⟨o1, r, st1, w1, l.ext x1, OutB.later h w1 x1⟩
abbrev HW (X : Cx) (C : FEnv) (e : Expr) (s : ST) : Prop := PW X e (tDB X.K (wx X) (s C))
theorem pw_by {e : Expr} {t t' : TT} (h : PW X e t) (i : ∀ s H Q, t' s H Q → t s H Q) : PW X e t' := ⟨fun w pins s σ H Q I q => h.run w pins s σ H Q I (i _ _ _ q)⟩
theorem h_wand1 (ha : HT X C a ta) : HW X C (.BoolOp .And [a] pos) ta := pw_and1 ha
theorem h_wor1 (ha : HT X C a ta) : HW X C (.BoolOp .Or [a] pos) ta := pw_or1 ha
theorem h_wand {rest : List Expr} (ha : HT X C a ta) (hb : HW X C (.BoolOp .And (b :: rest) pos) tb) : HW X C (.BoolOp .And (a :: b :: rest) pos) (tAn ta tb) := pw_by (pw_and ha hb) fun _ _ _ h => rd_an h
theorem h_wor {rest : List Expr} (ha : HT X C a ta) (hb : HW X C (.BoolOp .Or (b :: rest) pos) tb) : HW X C (.BoolOp .Or (a :: b :: rest) pos) (tOr' ta tb) := pw_by (pw_or ha hb) fun _ _ _ h => rd_or h
/-! ### and, or, not, if as values -/
theorem h_one {op : BoolOp} (h : HE X C a sa) : HE X C (.BoolOp op [a] pos) sa := pe_one h
theorem h_and {rest : List Expr} (ha : HE X C a sa) (hb : HE X C (.BoolOp .And (b :: rest) pos) sb) : HE X C (.BoolOp .And (a :: b :: rest) pos) (eAn sa sb) :=
  pe_by (pe_andT ha hb) fun s H Q ⟨o, r, st, w, l, h⟩ => by
    refine ⟨o, r, st, w, l, h.b fun d st1 e1 h x o1 H1 w1 x1 r1 => ?_⟩
    obtain ⟨k, e3, h⟩ := h.liftB
    refine ⟨k, r1.tru w1 e3, ?_⟩
    cases k with
    | true => exact iteT ⟨o1, r, st1, w1, l.ext x1, OutD.later h w1 x1⟩
    | false => exact iteF (h x o1 H1 w1 x1 r1)
theorem h_or {rest : List Expr} (ha : HE X C a sa) (hb : HE X C (.BoolOp .Or (b :: rest) pos) sb) : HE X C (.BoolOp .Or (a :: b :: rest) pos) (eOr sa sb) :=
  pe_by (pe_orT ha hb) fun s H Q ⟨o, r, st, w, l, h⟩ => by
    refine ⟨o, r, st, w, l, h.b fun d st1 e1 h x o1 H1 w1 x1 r1 => ?_⟩
    obtain ⟨k, e3, h⟩ := h.liftB
    refine ⟨k, r1.tru w1 e3, ?_⟩
    cases k with
    | true => exact iteT (h x o1 H1 w1 x1 r1)
    | false => exact iteF ⟨o1, r, st1, w1, l.ext x1, OutD.later h w1 x1⟩
theorem h_not (ha : HE X C a sa) : HE X C (.UnaryOp .Not a pos) (eNt sa) :=
  pe_by (pe_notT ha) fun s H Q ⟨o, r, st, w, l, h⟩ => by
    refine ⟨o, r, st, w, l, h.b fun d st1 e1 h x o1 H1 w1 x1 r1 => ?_⟩
    obtain ⟨k, e3, h⟩ := h.liftB
    exact ⟨k, r1.tru w1 e3, h _ o1 H1 w1 x1 (.bl _)⟩
theorem h_if (hc : HT X C c tc) (ha : HE X C a sa) (hb : HE X C b sb) : HE X C (.IfExp c a b pos) (eIf tc sa sb) :=
  pe_by (pe_ifExp hc ha hb) fun s H Q ⟨o, r, st, w, l, h⟩ => by
    refine ⟨o, r, st, w, l, h.b fun k st1 e1 h o1 H1 w1 x1 => ?_⟩
    cases k with
    | true => exact iteT ⟨o1, r, st1, w1, l.ext x1, OutD.later h w1 x1⟩
    | false => exact iteF ⟨o1, r, st1, w1, l.ext x1, OutD.later h w1 x1⟩
theorem pt_if {c : Expr} {tA tB tD : TT} (hc : PT X c tA) (ha : PT X a tB) (hb : PT X b tD) : PT X (.IfExp c a b pos) (fun s H Q => tA s H fun k H' => if k = true then tB s H' Q else tD s H' Q) := ⟨fun pins s σ H Q I h => by
  show wpAny _ _ (do if ← isTrue c X.env (eval c X.env) then isTrue a X.env (eval a X.env) else isTrue b X.env (eval b X.env)) _ _ _
  refine wpAny_bind (thn (hc.run pins s σ H _ I h) fun d s1 ⟨H1, I1, q1⟩ => ?_)
  cases d with
  | true => exact ha.run pins s1 σ H1 Q I1 q1
  | false => exact hb.run pins s1 σ H1 Q I1 q1⟩
theorem h_tif {tb' : ST} (hc : HT X C c tc) (ha : HT X C a ta) (hb : HT X C b tb') : HT X C (.IfExp c a b pos) (tIf' tc ta tb') :=
  pt_by (pt_if hc ha hb) fun s H Q ⟨o, r, st, w, l, h⟩ => by
    refine ⟨o, r, st, w, l, h.b fun k st1 e1 h o1 H1 w1 x1 => ?_⟩
    cases k with
    | true => exact iteT ⟨o1, r, st1, w1, l.ext x1, OutB.later h w1 x1⟩
    | false => exact iteF ⟨o1, r, st1, w1, l.ext x1, OutB.later h w1 x1⟩
theorem h_eBad {e : Expr} : HE X C e eBad := ⟨fun pins s σ H Q I ⟨o, r, st, w, l, h⟩ => h.elim⟩
theorem h_tBad {e : Expr} : HT X C e tBad := ⟨fun pins s σ H Q I ⟨o, r, st, w, l, h⟩ => h.elim⟩
theorem h_chn {op op' : CmpOp} {f g : D → D → Option D} (hf : Boolish f) (ho : OpR X (compareOp op) (rD2 X.K f)) (ho' : OpR X (compareOp op') (rD2 X.K g)) (ha : HE X C a sa) (hb : HE X C b sb) (hc : HE X C c sc)
    (hm : lastMarks [op, op'] [b, c] = false) : HE X C (.Compare a [op, op'] [b, c] pos) (eChn f g sa sb sc) :=
  pe_by (pe_chain ho ho' ha hb hc hm) fun s H Q ⟨o, r, st, w, l, h⟩ => by
    refine ⟨o, r, st, w, l, h.b fun d st1 e1 h x o1 H1 w1 x1 r1 => ⟨o1, r, st1, w1, l.ext x1, (OutD.later h w1 x1).b fun e st2 e2 h y o2 H2 w2 x2 r2 => ?_⟩⟩
    obtain ⟨z, e3, h⟩ := h.liftB
    obtain ⟨k, rfl⟩ := hf _ _ _ e3
    refine ⟨o2, st2, d, e, _, w2, r1.mono x2.sub, r2, e3, fun v o3 H3 w3 x3 r3 => ?_⟩
    have x13 := (x1.trans w1 x2).trans w2 x3
    cases r3
    refine ⟨k, rfl, ?_⟩
    cases k with
    | false => exact iteF (h _ o3 H3 w3 (x2.trans w2 x3) (.bl _))
    | true =>
      refine iteT ⟨o3, r, st2, w3, l.ext x13, (OutD.later h w3 (x2.trans w2 x3)).b fun q st4 e4 h u o4 H4 w4 x4 r4 => ?_⟩
      obtain ⟨z', e5, h⟩ := h.lift
      exact ⟨o4, st4, e, q, z', w4, (r2.mono x3.sub).mono x4.sub, r4, e5, fun v' o' H' w' x' q' => h v' o' H' w' (x4.trans w4 x') q'⟩
/-! ### argument lists, displays -/
theorem h_anil : HA X C [] aNil := pa_by pa_nil fun s H Q ⟨o, r, st, w, l, h⟩ => h [] o H w (.refl o H) .nil
theorem h_acons {es : List Expr} {ss : SA} (ha : HE X C a sa) (hr : HA X C es ss) (hs : starEach (a :: es) X.env = (false, eval a X.env) :: starEach es X.env) : HA X C (a :: es) (aCons sa ss) :=
  pa_by (pa_cons ha hr hs) fun s H Q ⟨o, r, st, w, l, h⟩ => by
    exact ⟨o, r, st, w, l, h.b fun d st1 e1 h x o1 H1 w1 x1 r1 => ⟨o1, r, st1, w1, l.ext x1, (OutA.later h w1 x1).b fun ds st2 e2 h xs o2 H2 w2 x2 r2 => h _ o2 H2 w2 x2 (.cons (r1.mono x2.sub) r2)⟩⟩
def Long (n : Nat) (s : SA) : Prop := ∀ C r st ds st', s C r st = .ok ds st' → ds.length = n
theorem long_nil : Long 0 aNil := fun C r st ds st' h => by cases h; rfl
theorem long_cons {n : Nat} {ss : SA} (h : Long n ss) : Long (n + 1) (aCons sa ss) := fun C r st ds st' q => by
  unfold aCons at q
  generalize sa C r st = A at q
  cases A with
  | ok d s1 =>
    have q : (ss C r s1).bind (fun ds st => .ok (d :: ds) st) = .ok ds st' := q
    cases e : ss C r s1 with
    | ok ds' s2 => rw [e] at q; cases q; rw [List.length_cons, h _ _ _ _ _ e]
    | exc _ _ => rw [e] at q; cases q
    | bad => rw [e] at q; cases q
  | exc _ _ => cases q
  | bad => cases q
theorem h_tup {es : List Expr} {ss : SA} {k n : Nat} (h : HA X C es ss) (hl : Long n ss) (hn : n ≤ sizeLine) : HE X C (.Tuple es k pos) (eTup ss) :=
  pe_by (pe_tup h) fun s H Q ⟨o, r, st, w, l, h⟩ => by
    refine ⟨o, r, st, w, l, h.b fun ds st1 e1 h xs o1 H1 w1 x1 r1 => ?_⟩
    refine ⟨by rw [r1.len, hl _ _ _ _ _ e1]; exact hn, fun p np => ?_⟩
    exact Ret.tup (fun v o' H' w' x' q => h v o' H' w' (x1.trans w1 x') q) w1 r1 np
theorem h_lst {es : List Expr} {ss : SA} {n : Nat} (h : HA X C es ss) (hl : Long n ss) (hn : n ≤ sizeLine) : HE X C (.List es pos) (eLst ss) :=
  pe_by (pe_lst h) fun s H Q ⟨o, r, st, w, l, h⟩ => by
    refine ⟨o, r, st, w, l, h.b fun ds st1 e1 h xs o1 H1 w1 x1 r1 => ?_⟩
    refine ⟨by rw [r1.len, hl _ _ _ _ _ e1]; exact hn, fun p np => ?_⟩
    exact Ret.lst (fun v o' H' w' x' q => h v o' H' w' (x1.trans w1 x') q) w1 r1 np
theorem h_cell {es : List Expr} {ss : SA} {n : Nat} (h : HA X C es ss) (hl : Long n ss) (hn : n ≤ sizeLine) : HE X C (.List es pos) (eCell ss) :=
  pe_by (pe_lst h) fun s H Q ⟨o, r, st, w, l, h⟩ => by
    refine ⟨o, r, st, w, l, h.b fun ds st1 e1 h xs o1 H1 w1 x1 r1 => ?_⟩
    refine ⟨by rw [r1.len, hl _ _ _ _ _ e1]; exact hn, fun p np => ?_⟩
    refine h _ (o1.more p) _ (more_wd (cl := .lst ds) w1 np ⟨w1.fnone np, _, upd_same, r1.mono (more_sub o1 p)⟩) (x1.trans w1 (more_ext w1 np)) ?_
    rw [← w1.n]
    have e : (o1.more p).m o1.n = p := by
      show (if o1.n = o1.n then p else o1.m o1.n) = p
      rw [if_pos rfl]
    have q := Rep.cell (K := X.K) (o := o1.more p) (i := o1.n) (Nat.lt_succ_self _)
    rw [e] at q
    exact q
/-! ### items, slices -/
theorem atI_rep {K : PySem.W.Frag} {o : Wo} {vs : List V} {ds : List D} (r : Reps K o vs ds) {i : Int} {d : D} (h : atI ds i = some d) : ∃ v, atI vs i = some v ∧ Rep K o v d := by
  unfold atI at h ⊢
  rw [r.len]
  cases e : ixN ds.length i with
  | none => rw [e] at h; cases h
  | some j =>
    rw [e] at h
    obtain ⟨v, a, b⟩ := r.get (show ds[j]? = some d from h)
    exact ⟨v, a, b⟩
theorem atI_ints {ns : List Int} {i k : Int} (h : atI ns i = some k) : atI (ns.map V.int) i = some (.int k) := by
  unfold atI at h ⊢
  rw [List.length_map]
  cases e : ixN ns.length i with
  | none => rw [e] at h; cases h
  | some j =>
    rw [e] at h
    have h : ns[j]? = some k := h
    show (ns.map V.int)[j]? = _
    rw [List.getElem?_map, h]
    rfl
def rDi (K : PySem.W.Frag) : R2 := fun x y H Q => ∃ o st d e r, Wd K o H st ∧ Rep K o x d ∧ Rep K o y e ∧ dIx d e st = some r ∧ Ret K o H st r Q
theorem ix_d : IxR X (rDi X.K) := fun val sl pins s σ H x y v u Q I rx ry ⟨o, st, d, e, r, w, r1, r2, eg, k⟩ hs => by
  refine ix_seq val sl pins s σ H x y v u Q I rx ry ?_ hs
  unfold dIx at eg
  split at eg
  · cases r2
    cases r1 with
    | tup h1 h2 =>
      obtain ⟨z, e1, e2⟩ := atI_rep h2 eg
      exact .inr (.inl ⟨_, _, _, z, rfl, rfl, sqT_up w h1, e1, k.same w e2⟩)
  · cases r2
    cases r1 with
    | lst h1 h2 =>
      obtain ⟨z, e1, e2⟩ := atI_rep h2 eg
      exact .inl ⟨_, _, _, z, rfl, rfl, SqL.of (w.sub _ _ h1), e1, k.same w e2⟩
  · cases r2
    cases r1 with
    | scr h1 =>
      obtain ⟨z, e1, e2⟩ := Option.map_eq_some_iff.mp eg
      subst e2
      exact .inl ⟨_, _, _, _, rfl, rfl, sqL_up w h1, atI_ints e1, k.same w (.int z)⟩
  · cases r2
    cases r1 with
    | cell hi =>
      obtain ⟨cl, a1, a2⟩ := w.cel' hi
      rw [a1] at eg
      cases cl with
      | lst xs =>
        obtain ⟨_, vs, a3, a4⟩ := a2
        obtain ⟨z, e1, e2⟩ := atI_rep a4 eg
        exact .inl ⟨_, _, _, z, rfl, rfl, SqL.of a3, e1, k.same w e2⟩
      | _ => cases eg
  · split at eg
    · rename_i c
      cases r2
      cases r1
      obtain ⟨z, e1, e2⟩ := Option.map_eq_some_iff.mp eg
      subst e2
      exact .inr (.inr ⟨_, _, z, rfl, rfl, c, e1, k.same w (.str _)⟩)
    · cases eg
  · cases eg
theorem h_ix (ha : HE X C a sa) (hb : HE X C b sb) (hs : PlainIx b) : HE X C (.Subscript a b pos) (eIxx dIx sa sb) :=
  pe_by (pe_ix ix_d ha hb hs) fun s H Q ⟨o, r, st, w, l, h⟩ => by
    refine ⟨o, r, st, w, l, h.b fun d st1 e1 h x o1 H1 w1 x1 r1 => ⟨o1, r, st1, w1, l.ext x1, (OutD.later h w1 x1).b fun e st2 e2 h y o2 H2 w2 x2 r2 => ?_⟩⟩
    obtain ⟨z, e3, h⟩ := h.lift
    exact ⟨o2, st2, d, e, z, w2, r1.mono x2.sub, r2, e3, fun v o' H' w' x' q => h v o' H' w' (x2.trans w2 x') q⟩
theorem cut_rep {K : PySem.W.Frag} {o : Wo} {vs : List V} {ds : List D} (r : Reps K o vs ds) (lo hi : Option Int) : Reps K o (cutV vs lo hi) (cutD ds lo hi) := by
  unfold cutV cutD
  rw [r.len]
  exact (r.drop _).take _
def rDsl (K : PySem.W.Frag) : V → Option Int → Option Int → Hp → VK → Prop := fun x lo hi H Q => ∃ o st d r, Wd K o H st ∧ Rep K o x d ∧ dSl d lo hi = some r ∧ Ret K o H st r Q
theorem cut_all {ds : List D} {lo hi : Option Int} (h1 : HT.sIx ds.length 0 lo = 0) (h2 : HT.sIx ds.length ds.length hi = ds.length) : cutD ds lo hi = ds := by
  unfold cutD
  rw [h1, h2]
  simp
theorem sl_d : SlR X (rDsl X.K) := fun pins s σ H x v vl vu lo hi sl Q I rx hs h1 h2 ⟨o, st, d, r, w, r1, eg, k⟩ => by
  refine ((sl_list.or sl_tupA).or sl_str) pins s σ H x v vl vu lo hi sl Q I rx hs h1 h2 ?_
  unfold dSl at eg
  split at eg
  · cases eg
    cases r1 with
    | lst a1 a2 => exact .inl (.inl ⟨_, _, rfl, SqL.of (w.sub _ _ a1), fun p n => k.lst w (cut_rep a2 _ _) n⟩)
  · cases eg
    cases r1 with
    | scr a1 => exact .inl (.inl ⟨_, _, rfl, sqL_up w a1, fun p n => k.lst w (cut_rep (Reps.ints _) _ _) n⟩)
  · cases eg
    cases r1 with
    | tup a1 a2 =>
      refine .inl (.inr ⟨_, _, rfl, sqT_up w a1, fun z => ?_, fun _ p n => k.tup w (cut_rep a2 _ _) n⟩)
      have e : cutD _ lo hi = _ := cut_all (a2.len.symm ▸ z.1) (a2.len.symm ▸ z.2)
      rw [e] at k
      exact k.same w (.tup a1 a2)
  · split at eg
    · rename_i c
      cases eg
      cases r1
      exact .inr ⟨_, rfl, c, k.same w (.str _)⟩
    · cases eg
  · cases eg
abbrev HO' (X : Cx) (C : FEnv) (e : Option Expr) (s : SO) : Prop := PO X e (fun σ H Q => ∃ o r st, Wd X.K o H st ∧ LocOk X.K o σ H r ∧ OutR (fun i st' => ∀ o' H', Wd X.K o' H' st' → Ext o H o' H' → Q i H') (OutX X.K (wx X) o H) (s C r st))
theorem h_onone : HO' X C none oNone := ⟨fun pins s σ H Q I ⟨o, r, st, w, l, h⟩ => po_none.run pins s σ H Q I (h o H w (.refl o H))⟩
theorem h_osome (ha : HE X C a sa) : HO' X C (some a) (oSome sa) := ⟨fun pins s σ H Q I ⟨o, r, st, w, l, h⟩ => (po_some ha).run pins s σ H Q I (by
  refine ⟨o, r, st, w, l, h.b fun d st1 e1 h v o1 H1 w1 x1 r1 => ?_⟩
  cases d with
  | int i =>
    cases r1
    exact ⟨i, rfl, h o1 H1 w1 x1⟩
  | _ => exact h.elim)⟩
theorem h_sl {lo hi : Option Expr} {sl sh : SO} {p2 : Pos} (ha : HE X C a sa) (hl : HO' X C lo sl) (hh : HO' X C hi sh) : HE X C (.Subscript a (.Slice lo hi none p2) pos) (eSll dSl sa sl sh) :=
  pe_by (pe_slice sl_d ha hl hh) fun s H Q ⟨o, r, st, w, l, h⟩ => by
    refine ⟨o, r, st, w, l, h.b fun d st1 e1 h x o1 H1 w1 x1 r1 => ⟨o1, r, st1, w1, l.ext x1, (OutD.later h w1 x1).b fun i st2 e2 h o2 H2 w2 x2 => ⟨o2, r, st2, w2, l.ext (x1.trans w1 x2), (OutD.later h w2 x2).b fun j st3 e3 h o3 H3 w3 x3 => ?_⟩⟩⟩
    obtain ⟨z, e4, h⟩ := h.lift
    exact ⟨o3, st3, d, z, w3, (r1.mono x2.sub).mono x3.sub, e4, fun v o' H' w' x' q => h v o' H' w' (x3.trans w3 x') q⟩
end
end DS
namespace DS
open PySem L2 PyProof.Rows
/-! ## x[::-1] of tuples and lists -/
section
variable {prog : Program} {w : World} {A : Around} {E : Value → Shared → Prop} {s : Shared}
theorem back_adjust (n : Nat) : Builtin.Slice.sliceAdjust none none (-1) (n : Int) = ((n : Int) - 1, -1) := by
  unfold Builtin.Slice.sliceAdjust
  rfl
theorem back_places (n : Nat) : Builtin.Slice.slicePlaces ((n : Int) - 1) (-1) (-1) = n := by
  unfold Builtin.Slice.slicePlaces
  have h1 : ¬ ((-1 : Int) > 0) := by omega
  rw [if_neg h1]
  by_cases c : (n : Int) - 1 > -1
  · rw [if_pos c, show (- -1 : Int) = 1 by decide, Int.ediv_one]
    omega
  · rw [if_neg c]
    omega
theorem back_applied {sl : Addr} {vk : Value} {n : Nat} {Q : Int × Int × Nat → Shared → Prop} (hs : s.heap.IsSliceOf sl .none .none vk) (pk : IsPart vk (some (-1)))
    (h : Q ((n : Int) - 1, -1, n) s) : wpAny (model prog w) A (Builtin.Slice.sliceApplied (.ref sl) (pure (n : Int))) Q E s := by
  obtain ⟨os, hos, hcs, hds⟩ := id hs
  unfold Builtin.Slice.sliceApplied Builtin.Slice.sliceFields
  refine wpAny_bind (wpAny_bind (wpAny_field hos hds (x := .none) rfl (wpAny_bind (wpAny_field hos hds (x := .none) rfl (wpAny_bind (wpAny_field hos hds (x := vk) rfl (wpAny_pure ?_)))))))
  refine wpAny_bind (HT.slicePart_ pk ?_)
  show wpAny _ _ (if ((-1 : Int) == 0) = true then _ else _) _ _ s
  rw [if_neg (by decide)]
  refine wpAny_bind (slicePart_none (wpAny_bind (slicePart_none (wpAny_bind (wpAny_pure ?_)))))
  show wpAny _ _ (match Builtin.Slice.sliceAdjust none none (-1) (n : Int) with | (lo, hi) => pure (lo, (-1 : Int), Builtin.Slice.slicePlaces lo hi (-1))) _ _ s
  rw [back_adjust]
  show wpAny _ _ (pure ((n : Int) - 1, (-1 : Int), Builtin.Slice.slicePlaces ((n : Int) - 1) (-1) (-1))) _ _ s
  rw [back_places]
  exact wpAny_pure h
theorem back_pick (xs : Array Value) : ((List.range xs.size).filterMap fun (m : Nat) => xs[((xs.size : Int) - 1 + (m : Int) * (-1)).toNat]?).toArray = xs.toList.reverse.toArray := by
  have e : (fun (m : Nat) => xs[((xs.size : Int) - 1 + (m : Int) * (-1)).toNat]?) = (fun k => xs[k]?) ∘ fun m => xs.size - 1 - m := by
    funext m
    have : ((xs.size : Int) - 1 + (m : Int) * (-1)).toNat = xs.size - 1 - m := by omega
    show xs[_]? = xs[_]?
    rw [this]
  rw [e, ← List.filterMap_map, PySem.W.krv_range, List.filterMap_reverse, PySem.W.krv_all]
theorem back_tuple {t sl : Addr} {items : Array Value} {vk : Value} {Q : Value → Shared → Prop} (ht : IsTup s.heap t items) (hs : s.heap.IsSliceOf sl .none .none vk) (pk : IsPart vk (some (-1)))
    (h : Q (.ref s.heap.objs.size) { s with heap := s.heap.push { cls := .type "tuple", data := .seq items.toList.reverse.toArray } })
    (hsz : items.size ≤ sizeLine) : wpAny (model prog w) A (getItem (.ref t) (.ref sl)) Q E s := by
  have htake : sizeOk (.seq items.toList.reverse.toArray) := by
    show items.toList.reverse.toArray.size ≤ sizeLine
    rw [List.size_toArray, List.length_reverse, Array.length_toList]
    exact hsz
  obtain ⟨os, hos, hcs, hds⟩ := id hs
  have hTs : s.TypeIs (.ref sl) "slice" := ⟨os, hos, hcs⟩
  unfold getItem
  try with_reducible refine wpAny_holding ?_
  first | refine wpAny_bind (wpAny_pure ?_) | skip
  refine wpAny_bind (wpAny_sequenceKey ht.typeIs (by decide) ?_)
  refine wpAny_bind (wpAny_callSpecial?_slot (name := Str.ofString "__getitem__") ht.typeIs PyProof.Rows.slot_tuple_getitem (wpAny_call_entry PyProof.Rows.slot_tuple_getitem ht.typeIs entry_tuple_getitem ?_ (args_tuple_getitem _ _)))
  show wpAny _ _ (Builtin.Tuple.tupleItemsOf (.ref t) >>= _) _ _ s
  refine wpAny_bind (tupleItemsOf_ ht ?_)
  refine wpAny_bind (wpAny_typeOf hTs ?_)
  rw [if_pos (by decide)]
  refine wpAny_bind (back_applied hs pk ?_)
  have hno : ¬ (((items.size : Int) - 1 == 0 && (-1 : Int) == 1 && items.size == items.size) = true) := by
    intro q
    rw [Bool.and_eq_true, Bool.and_eq_true] at q
    exact absurd q.1.2 (by decide)
  show wpAny _ _ (if ((items.size : Int) - 1 == 0 && (-1 : Int) == 1 && items.size == items.size) = true then _ else _) _ _ s
  rw [if_neg hno, back_pick]
  first
    | exact wpAny_bind (m := Builtin.Tuple.tupleExact _) (wpAny_newObj_type (wpAny_pure ⟨_, rfl, wpAny_pure h⟩) htake)
    | exact wpAny_bind (m := Builtin.Tuple.tupleExact _) (wpAny_newObj_type (wpAny_bind (wpAny_pure (wpAny_pure ⟨_, rfl, wpAny_pure h⟩))) htake)
    | exact wpAny_bind (wpAny_bind (m := Builtin.Tuple.tupleExact _) (wpAny_newObj_type (wpAny_pure (wpAny_pure ⟨_, rfl, wpAny_pure h⟩)) htake))
    | exact wpAny_bind (wpAny_bind (m := Builtin.Tuple.tupleExact _) (wpAny_newObj_type (wpAny_pure ⟨_, rfl, wpAny_pure h⟩) htake))
end
section
variable {X : Cx} {C : FEnv} {a b c : Expr} {sa sb sc : SE} {pos p2 : Pos}
/-- what x[::k] is, by values: the slice object stands at sl -/
def RvR (X : Cx) (r : V → V → Hp → VK → Prop) : Prop :=
  ∀ (pins : List (Addr × Obj)) (s : Shared) (σ : L2.St) (H : Hp) (x y : V) (v vk : Value) (sl : Addr) (Q : VK), Inv X pins σ H s → RelV x v → s.heap.IsSliceOf sl .none .none vk → RelV y vk → r x y H Q →
    ∃ T id, typeLookup (.type T) "__getitem__" = pure (some (.builtin id)) ∧ s.TypeIs v T ∧ wpAny (model X.prog X.w) X.A (getItem v (.ref sl)) (EP X pins σ Q) X.xe s
theorem pe_back {r : V → V → Hp → VK → Prop} {ta tb : TE} (hr : RvR X r) (ha : PE X a ta) (hb : PE X b tb) : PE X (.Subscript a (.Slice none none (some b) p2) pos) (tOp r ta tb) := by
  refine ⟨fun pins s σ H Q I h => ?_⟩
  refine Subscript_ (thn (ha.run pins s σ H _ I h) fun v s1 ⟨x, H1, I1, r1, q1⟩ => ?_)
  refine wpAny_Slice ?_
  rw [evalPart_none]
  refine wpAny_pure (wpAny_pure ?_)
  rw [evalPart_some]
  refine thn (hb.run pins s1 σ H1 _ I1 q1) fun vk s3 ⟨y, H3, I3, pk, q3⟩ => ?_
  have I4 : Inv X pins σ H3 { s3 with heap := s3.heap.push { cls := .type "slice", data := .fields #[.none, .none, vk] } } := I3.kept (t' := s3.toks) fun b ob q => Heap.get?_push_of_some _ q
  obtain ⟨T, id, hT, ht, hg⟩ := hr pins { s3 with heap := s3.heap.push { cls := .type "slice", data := .fields #[.none, .none, vk] } } σ H3 x y v vk s3.heap.objs.size Q I4 r1 (Heap.IsSliceOf.new ..) pk q3
  show wpAny (model X.prog X.w) X.A (subscriptTail a (.Slice none none (some b) p2) v (.ref s3.heap.objs.size)) (EP X pins σ Q) X.xe { s3 with heap := s3.heap.push { cls := .type "slice", data := .fields #[.none, .none, vk] } }
  exact tail_any (ops := [v, .ref s3.heap.objs.size]) ht hT hg (by with_unfolding_all rfl)
theorem vals_rev : ∀ {xs : List V} {us : List Value}, Vals xs us → Vals xs.reverse us.reverse
  | _, _, .nil => .nil
  | _, _, .cons r1 r2 => by
    rw [List.reverse_cons, List.reverse_cons]
    exact Vals.append (vals_rev r2) (.cons r1 .nil)
theorem reps_rev {K : PySem.W.Frag} {o : Wo} : ∀ {xs : List V} {us : List D}, Reps K o xs us → Reps K o xs.reverse us.reverse
  | _, _, .nil => .nil
  | _, _, .cons r1 r2 => by
    rw [List.reverse_cons, List.reverse_cons]
    exact Reps.app (reps_rev r2) (.cons r1 .nil)
/-- x[::-1] -/
def dBack : D → D → Option D
  | .tup xs, .int i => if i = -1 then some (.tup xs.reverse) else none
  | .lst xs, .int i => if i = -1 then some (.lst xs.reverse) else none
  | _, _ => none
theorem back_d : RvR X (rD2 X.K dBack) := fun pins s σ H x y v vk sl Q I rx hs ry ⟨o, st, d, e, r, w, r1, r2, eg, k⟩ => by
  unfold dBack at eg
  split at eg
  · split at eg
    · rename_i c
      subst c
      cases eg
      cases r2
      obtain ⟨t, rfl⟩ := ry
      cases r1 with
      | tup a1 a2 =>
        cases rx
        obtain ⟨its, r, ht, hz⟩ := I.tuple (sqT_up w a1)
        have hlen := r.length
        refine ⟨"tuple", _, PyProof.Rows.slot_tuple_getitem.lookup, ht.typeIs, ?_⟩
        refine back_tuple ht hs (.int _ t) ?_ (by rw [List.size_toArray, ← hlen]; exact hz)
        refine ⟨.ref s.heap.objs.size, _, I.laid (t' := s.toks) (o := .tup _) (fun b ob q => Heap.get?_push_of_some _ q) (Nat.le_refl _) ?_, rfl, k.tup w (reps_rev a2) (I.hok.fresh (Nat.le_refl _))⟩
        exact ⟨(by rw [List.length_reverse]; exact hz), _, vals_rev r, IsTup.new _ _⟩
    · cases eg
  · split at eg
    · rename_i c
      subst c
      cases eg
      cases r2
      obtain ⟨t, rfl⟩ := ry
      cases r1 with
      | lst a1 a2 =>
        cases rx
        obtain ⟨its, r, ht, hz⟩ := I.list (SqL.of (w.sub _ _ a1))
        refine ⟨"list", _, slot_list_getitem.lookup, ht.isList.typeIs, ?_⟩
        refine wpAny_getItem_list_slice ht.isList hs .none .none (.int _ t) (by decide) ?_ (by rw [List.size_toArray, ← r.length]; exact hz)
        rw [PySem.W.krv_pick]
        refine ⟨.ref s.heap.objs.size, _, I.laid (t' := s.toks) (o := .lst _) (fun b ob q => Heap.get?_push_of_some _ q) (Nat.le_refl _) ?_, rfl, k.lst w (reps_rev a2) (I.hok.fresh (Nat.le_refl _))⟩
        exact ⟨(by rw [List.length_reverse]; exact hz), _, 0, vals_rev r, Heap.get?_push_size _ rfl⟩
    · cases eg
  · cases eg
theorem h_back (ha : HE X C a sa) (hb : HE X C b sb) : HE X C (.Subscript a (.Slice none none (some b) p2) pos) (eBin dBack sa sb) :=
  pe_by (pe_back back_d ha hb) fun s H Q h => rd_bin h
theorem h_emp : HE X C (.Dict [] [] pos) (eC .emp) := pe_by pe_dnewK fun s H Q ⟨o, r, st, w, l, h⟩ => fun p n =>
  h _ (o.put p (.dK [])) _ (put_wd w n) (put_ext w n) (.emp upd_same)
end
end DS
namespace DS
open PySem L2
/-! ## built-in functions -/
def dAbs : List D → Option D
  | [.int i] => some (.int (if i < 0 then -i else i))
  | _ => none
def dMax : List D → Option D
  | [.int i, .int j] => some (.int (if j > i then j else i))
  | _ => none
def dMin : List D → Option D
  | [.int i, .int j] => some (.int (if j < i then j else i))
  | _ => none
def dLen : List D → Option D
  | [.tup xs] => some (.int xs.length)
  | [.lst xs] => some (.int xs.length)
  | [.scr xs] => some (.int xs.length)
  | [.str x] => if x.length ≤ sizeLine then some (.int x.length) else none
  | _ => none
def dDivmod : List D → Option D
  | [.int i, .int j] => if 0 < j ∧ j.natAbs.log2 < 9000 then some (.tup [.int (i / j), .int (i % j)]) else none
  | _ => none
def tyName : D → Option String
  | .non => some "NoneType"
  | .bl _ => some "bool"
  | .int _ => some "int"
  | .str _ => some "str"
  | .tup _ => some "tuple"
  | .lst _ => some "list"
  | .emp => some "dict"
  | .scr _ => some "list"
  | .cell _ => none
  | .ty _ => none
  | .obj _ _ _ => none
  | .cls _ => none
def dIsi : List D → Option D
  | [d, .ty c] => (tyName d).bind fun t => (kitB t c).map .bl
  | _ => none
/-- .. with classes of the text: anc tells the classes above each -/
def dIsO (anc : List (Str × List Str)) : List D → Option D
  | [.obj c _ _, .cls c'] => match anc.lookup c, anc.lookup c' with
    | some l, some _ => some (.bl (l.contains c'))
    | _, _ => none
  | [.obj c _ _, .ty t] => match anc.lookup c with
    | some _ => if t = "int" ∨ t = "bool" ∨ t = "tuple" ∨ t = "str" ∨ t = "list" then some (.bl false) else none
    | none => none
  | [d, .cls c'] => match tyName d, anc.lookup c' with
    | some _, some _ => some (.bl false)
    | _, _ => none
  | l => dIsi l
/-- what is asked of the classes for it -/
structure IsiOk (K : PySem.W.Frag) (anc : List (Str × List Str)) : Prop where
  cls : ∀ c l, anc.lookup c = some l → Cls K (He.ga K c) ∧ PySem.W.findIn K (.ref (He.ga K c)) "__class__" = some (some (.builtin "object.__class__")) ∧ PySem.W.specialIn K (.builtin "object.__class__") "__get__" = some (some (.builtin "getset_descriptor.__get__")) ∧
    PySem.W.takesIn K (.builtin "object.__class__") = some true ∧ PySem.W.mroIn K (He.ga K c) (.type "object") = some true
  two : ∀ c c' l l', anc.lookup c = some l → anc.lookup c' = some l' → PySem.W.kitOne K (.ref (He.ga K c)) (.ref (He.ga K c')) = some (l.contains c')
  low : ∀ c l t, anc.lookup c = some l → (t = "int" ∨ t = "bool" ∨ t = "tuple" ∨ t = "str" ∨ t = "list") → PySem.W.kitOne K (.ref (He.ga K c)) (.type t) = some false
  up : ∀ c l t, anc.lookup c = some l → (t = "NoneType" ∨ t = "int" ∨ t = "bool" ∨ t = "tuple" ∨ t = "str" ∨ t = "list" ∨ t = "dict") → PySem.W.kitOne K (.type t) (.ref (He.ga K c)) = some false
def bls : List D → Option (List Bool)
  | [] => some []
  | .bl b :: r => (bls r).map (b :: ·)
  | _ :: _ => none
def dAll : List D → Option D
  | [.lst xs] => (bls xs).map fun bs => .bl (bs.all id)
  | _ => none
def dAny : List D → Option D
  | [.lst xs] => (bls xs).map fun bs => .bl (bs.any id)
  | _ => none
def dRepr : List D → Option D
  | [d] => (toP d).bind fun p => if p.showable = true ∧ (p.hasDict = true → hasL p = false) ∧ p.depth ≤ 60 ∧ p.shown.length ≤ sizeLine then some (.str p.shown) else none
  | _ => none
def dStr : List D → Option D
  | [.int i] => if i.natAbs.log2 < 1920 then some (.str (toString i)) else none
  | [.str x] => some (.str x)
  | _ => none
def dInt : List D → Option D
  | [.int i] => some (.int i)
  | [.bl b] => some (.int (if b then 1 else 0))
  | [.str x] => if x.length ≤ 640 then (PySem.intText? x).map .int else none
  | _ => none
section
variable {X : Cx}
theorem reps1 {K : PySem.W.Frag} {o : Wo} {vs : List V} {d : D} (r : Reps K o vs [d]) : ∃ v, vs = [v] ∧ Rep K o v d := by
  cases r with
  | cons a b => cases b; exact ⟨_, rfl, a⟩
theorem reps2 {K : PySem.W.Frag} {o : Wo} {vs : List V} {d e : D} (r : Reps K o vs [d, e]) : ∃ v u, vs = [v, u] ∧ Rep K o v d ∧ Rep K o u e := by
  cases r with
  | cons a b =>
    obtain ⟨u, rfl, q⟩ := reps1 b
    exact ⟨_, _, rfl, a, q⟩
theorem bf_abs : CallR X (.builtin "abs") (rDs X.K dAbs) := cby call_abs fun xs H Q ⟨o, st, ds, r, w, rs, eg, k⟩ => by
  unfold dAbs at eg
  split at eg
  · obtain ⟨v, rfl, rv⟩ := reps1 rs
    cases rv; cases eg
    exact ⟨_, rfl, k.same w (.int _)⟩
  · cases eg
theorem bf_max (hc : X.calm = true) : CallR X (.builtin "max") (rDs X.K dMax) := cby (call_max2 hc) fun xs H Q ⟨o, st, ds, r, w, rs, eg, k⟩ => by
  unfold dMax at eg
  split at eg
  · obtain ⟨v, u, rfl, rv, ru⟩ := reps2 rs
    cases rv; cases ru; cases eg
    exact ⟨_, _, rfl, k.same w (.int _)⟩
  · cases eg
theorem bf_min (hc : X.calm = true) : CallR X (.builtin "min") (rDs X.K dMin) := cby (call_min2 hc) fun xs H Q ⟨o, st, ds, r, w, rs, eg, k⟩ => by
  unfold dMin at eg
  split at eg
  · obtain ⟨v, u, rfl, rv, ru⟩ := reps2 rs
    cases rv; cases ru; cases eg
    exact ⟨_, _, rfl, k.same w (.int _)⟩
  · cases eg
theorem bf_len : CallR X (.builtin "len") (rDs X.K dLen) := cby call_len fun xs H Q ⟨o, st, ds, r, w, rs, eg, k⟩ => by
  unfold dLen at eg
  split at eg
  · obtain ⟨v, rfl, rv⟩ := reps1 rs
    cases eg
    cases rv with
    | tup a b => exact ⟨_, _, rfl, .inr ⟨_, sqT_up w a, rfl⟩, k.same w (by rw [b.len]; exact .int _)⟩
  · obtain ⟨v, rfl, rv⟩ := reps1 rs
    cases eg
    cases rv with
    | lst a b => exact ⟨_, _, rfl, .inl ⟨_, SqL.of (w.sub _ _ a), rfl⟩, k.same w (by rw [b.len]; exact .int _)⟩
  · obtain ⟨v, rfl, rv⟩ := reps1 rs
    cases eg
    cases rv with
    | scr a => exact ⟨_, _, rfl, .inl ⟨_, sqL_up w a, rfl⟩, k.same w (by rw [List.length_map]; exact .int _)⟩
  · obtain ⟨v, rfl, rv⟩ := reps1 rs
    split at eg
    · rename_i c
      cases eg
      cases rv
      exact ⟨_, _, rfl, ⟨c, rfl⟩, k.same w (.int _)⟩
    · cases eg
  · cases eg
theorem bf_divmod : CallR X (.builtin "divmod") (rDs X.K dDivmod) := cby call_divmodW fun xs H Q ⟨o, st, ds, r, w, rs, eg, k⟩ => by
  unfold dDivmod at eg
  split at eg
  · obtain ⟨v, u, rfl, rv, ru⟩ := reps2 rs
    split at eg
    · rename_i c
      cases rv; cases ru; cases eg
      refine ⟨_, _, rfl, ⟨c.1, ?_⟩, fun p n => k.tup w (.cons (.int _) (.cons (.int _) .nil)) n⟩
      exact PyProof.noPylong_of_log2 c.2
    · cases eg
  · cases eg
theorem tyX_rep {K : PySem.W.Frag} {o : Wo} {H : Hp} {st : Store} (w : Wd K o H st) {v : V} {d : D} (r : Rep K o v d) {t : String} (h : tyName d = some t) : TyX K H v (.type t) := by
  cases r with
  | non => cases h; exact .base .non
  | bl b => cases h; exact .base (.bl b)
  | int i => cases h; exact .base (.int i)
  | str x => cases h; exact .base (.str x)
  | tup a b =>
    cases h
    rcases a with (a | ⟨q, a⟩) | ⟨ob, its, n, h1, h2, _⟩
    · exact .base (.tup (w.sub _ _ a))
    · exact .fTuple (w.sub _ _ a)
    · exact .kTuple h1 h2
  | lst a b => cases h; exact .base (.lst (w.sub _ _ a))
  | emp a => cases h; exact .base (.dK (w.sub _ _ a))
  | scr a =>
    cases h
    rcases a with (a | ⟨q, a⟩) | ⟨ob, its, n, h1, h2, _⟩
    · exact .base (.lst (w.sub _ _ a))
    · exact .base (.frz (w.sub _ _ a))
    · exact .kList h1 h2
  | cell hi => cases h
  | ty n => cases h
  | obj _ _ _ _ => cases h
  | cls _ => cases h
theorem bf_isi : CallR X (.builtin "isinstance") (rDs X.K dIsi) := cby call_isi fun xs H Q ⟨o, st, ds, r, w, rs, eg, k⟩ => by
  unfold dIsi at eg
  split at eg
  · rename_i d c
    obtain ⟨v, u, rfl, rv, ru⟩ := reps2 rs
    cases ru
    cases e1 : tyName d with
    | none => rw [e1] at eg; cases eg
    | some t =>
      rw [e1] at eg
      obtain ⟨b, e2, e3⟩ := Option.map_eq_some_iff.mp (show (kitB t c).map D.bl = some r from eg)
      subst e3
      exact ⟨_, _, _, _, b, rfl, .ty c, tyX_rep w rv e1, kit_ty e2, k.same w (.bl _)⟩
  · cases eg
theorem bf_isO {anc : List (Str × List Str)} (A : IsiOk X.K anc) : CallR X (.builtin "isinstance") (rDs X.K (dIsO anc)) := fun pins s σ H xs us Q I rv ⟨o, st, ds, r, w, rs, eg, k⟩ => by
  unfold dIsO at eg
  split at eg
  · rename_i c ns xs' c'
    obtain ⟨v, u, rfl, r1, r2⟩ := reps2 rs
    split at eg
    · rename_i l l' e1 e2
      cases eg
      cases r2
      obtain ⟨cl, a1, a2, a3, a4⟩ := A.cls c l e1
      cases r1 with
      | obj h1 h2 h3 h4 => exact call_isi pins s σ H _ us Q I rv ⟨_, _, _, _, _, rfl, .own _, .base (.ins (w.sub _ _ h1) cl a1 a2 a3 a4), A.two c c' l l' e1 e2, k.same w (.bl _)⟩
    · cases eg
  · rename_i c ns xs' t
    obtain ⟨v, u, rfl, r1, r2⟩ := reps2 rs
    split at eg
    · rename_i l e1
      split at eg
      · rename_i ht
        cases eg
        cases r2
        obtain ⟨cl, a1, a2, a3, a4⟩ := A.cls c l e1
        cases r1 with
        | obj h1 h2 h3 h4 => exact call_isi pins s σ H _ us Q I rv ⟨_, _, _, _, _, rfl, .ty t, .base (.ins (w.sub _ _ h1) cl a1 a2 a3 a4), A.low c l t e1 ht, k.same w (.bl _)⟩
      · cases eg
    · cases eg
  · rename_i d c' _
    obtain ⟨v, u, rfl, r1, r2⟩ := reps2 rs
    split at eg
    · rename_i t l e1 e2
      cases eg
      cases r2
      refine call_isi pins s σ H _ us Q I rv ⟨_, _, _, _, _, rfl, .own _, tyX_rep w r1 e1, A.up c' l t e2 ?_, k.same w (.bl _)⟩
      cases d <;> cases e1 <;> simp
    · cases eg
  · exact bf_isi pins s σ H xs us Q I rv ⟨o, st, ds, r, w, rs, eg, k⟩
theorem bls_rep {K : PySem.W.Frag} {o : Wo} : ∀ {vs : List V} {ds : List D} {bs : List Bool}, Reps K o vs ds → bls ds = some bs → vs = bs.map V.bl
  | _, _, bs, .nil, h => by cases h; rfl
  | _, _, bs, .cons (v := v) (d := d) a b, h => by
    cases d with
    | bl x =>
      obtain ⟨r, e1, e2⟩ := Option.map_eq_some_iff.mp (show (bls _).map (x :: ·) = some bs from h)
      subst e2
      cases a
      rw [bls_rep b e1]
      rfl
    | _ => cases h
theorem bf_all (hc : X.calm = true) : CallR X (.builtin "all") (rDs X.K dAll) := cby (cr_all hc) fun xs H Q ⟨o, st, ds, r, w, rs, eg, k⟩ => by
  unfold dAll at eg
  split at eg
  · obtain ⟨v, rfl, rv⟩ := reps1 rs
    obtain ⟨bs, e1, e2⟩ := Option.map_eq_some_iff.mp eg
    subst e2
    cases rv with
    | lst a b =>
      refine ⟨_, bs, rfl, ?_, k.same w (.bl _)⟩
      rw [← bls_rep b e1]
      exact SqL.of (w.sub _ _ a)
  · cases eg
theorem bf_any (hc : X.calm = true) : CallR X (.builtin "any") (rDs X.K dAny) := cby (cr_any hc) fun xs H Q ⟨o, st, ds, r, w, rs, eg, k⟩ => by
  unfold dAny at eg
  split at eg
  · obtain ⟨v, rfl, rv⟩ := reps1 rs
    obtain ⟨bs, e1, e2⟩ := Option.map_eq_some_iff.mp eg
    subst e2
    cases rv with
    | lst a b =>
      refine ⟨_, bs, rfl, ?_, k.same w (.bl _)⟩
      rw [← bls_rep b e1]
      exact SqL.of (w.sub _ _ a)
  · cases eg
theorem bf_str : CallR X (.type "str") (rDs X.K dStr) := fun pins s σ H xs us Q I rv ⟨o, st, ds, r, w, rs, eg, k⟩ => by
  unfold dStr at eg
  split at eg
  · obtain ⟨v, rfl, r1⟩ := reps1 rs
    split at eg
    · rename_i c
      cases eg; cases r1
      exact call_str_int pins s σ H _ us Q I rv ⟨_, rfl, c, k.same w (.str _)⟩
    · cases eg
  · obtain ⟨v, rfl, r1⟩ := reps1 rs
    cases eg; cases r1
    exact SkE.call_str_str pins s σ H _ us Q I rv ⟨_, rfl, k.same w (.str _)⟩
  · cases eg
theorem bf_int : CallR X (.type "int") (rDs X.K dInt) := fun pins s σ H xs us Q I rv ⟨o, st, ds, r, w, rs, eg, k⟩ => by
  unfold dInt at eg
  split at eg
  · obtain ⟨v, rfl, r1⟩ := reps1 rs
    cases eg; cases r1
    exact call_int1 pins s σ H _ us Q I rv (.inl ⟨_, rfl, k.same w (.int _)⟩)
  · obtain ⟨v, rfl, r1⟩ := reps1 rs
    cases eg; cases r1
    exact call_int1 pins s σ H _ us Q I rv (.inr ⟨_, rfl, k.same w (.int _)⟩)
  · obtain ⟨v, rfl, r1⟩ := reps1 rs
    split at eg
    · rename_i c
      obtain ⟨n, e1, e2⟩ := Option.map_eq_some_iff.mp eg
      subst e2
      cases r1
      exact call_int_str pins s σ H _ us Q I rv ⟨_, n, rfl, e1, c, k.same w (.int _)⟩
    · cases eg
  · cases eg
theorem bf_repr (hg : X.A.guards = some []) (hu : X.A.units + 64 < cLine) : CallR X (.builtin "repr") (rDs X.K dRepr) := fun pins s σ H xs us Q I rv ⟨o, st, ds, r, w, rs, eg, k⟩ => by
  unfold dRepr at eg
  split at eg
  · rename_i d
    obtain ⟨v, rfl, r1⟩ := reps1 rs
    obtain ⟨u, rfl, ru⟩ := vals1 rv
    cases e1 : toP d with
    | none => rw [e1] at eg; cases eg
    | some p =>
      rw [e1] at eg
      have eg : (if p.showable = true ∧ (p.hasDict = true → hasL p = false) ∧ p.depth ≤ 60 ∧ p.shown.length ≤ sizeLine then some (D.str p.shown) else none) = some r := eg
      split at eg
      · rename_i c
        cases eg
        obtain ⟨c1, c2, c3, c4⟩ := c
        obtain ⟨as, hr, hn⟩ := Rep.reads I w d p v u r1 e1 ru
        have fin : Q (.str p.shown) H := k.same w (.str _)
        cases hr with
        | none => exact PySem.P.repr_of_none ⟨.str _, H, I.tok _, ⟨_, rfl⟩, fin⟩
        | bool b => exact PySem.P.repr_of_bool ⟨.str _, H, I.tok _, ⟨_, rfl⟩, fin⟩
        | int i t => exact PySem.P.repr_of_int (by simpa [PyData.showable] using c1) ⟨.str _, H, I.tok _, ⟨_, rfl⟩, fin⟩
        | str x t => exact PySem.P.repr_of_str ⟨.str _, H, I.tok _, ⟨_, rfl⟩, fin⟩ c4
        | list a1 a2 a3 a4 => exact repr_of_reads' (.list a1 a2 a3 a4) c1 (fun z => hn (c2 z)) hg (by omega) (fun _ _ e => e) (fun h' u tk hk => ⟨.str _, H, I.kept hk, ⟨_, rfl⟩, fin⟩) c4
        | tuple a1 a2 a3 a4 => exact repr_of_reads' (.tuple a1 a2 a3 a4) c1 (fun z => hn (c2 z)) hg (by omega) (fun _ _ e => e) (fun h' u tk hk => ⟨.str _, H, I.kept hk, ⟨_, rfl⟩, fin⟩) c4
        | dict a1 a2 a3 a4 a5 => exact repr_of_reads' (.dict a1 a2 a3 a4 a5) c1 (fun z => hn (c2 z)) hg (by omega) (fun _ _ e => e) (fun h' u tk hk => ⟨.str _, H, I.kept hk, ⟨_, rfl⟩, fin⟩) c4
      · cases eg
  · cases eg
end
/-! ### in, not in -/
def flatD : D → Bool
  | .non => true
  | .bl _ => true
  | .int _ => true
  | .str _ => true
  | _ => false
def eqF : D → D → Bool
  | .non, .non => true
  | .bl a, .bl b => a == b
  | .bl a, .int b => (if a then 1 else 0) == b
  | .int a, .bl b => a == (if b then 1 else 0)
  | .int a, .int b => a == b
  | .str a, .str b => a == b
  | _, _ => false
def inD (x : D) (ds : List D) : Bool := ds.any fun y => eqF y x
/-- .. of items that are data -/
def inP (x : D) (ds : List D) : Option Bool := match toP x, toPs ds with
  | some p, some ps => if SeqAt.shaped (.list ps) = true ∧ SeqAt.shaped p = true then some (ps.any fun y => PyData.eqv y p) else none
  | _, _ => none
def dInN (neg : Bool) : D → D → Option D
  | x, .tup ds => if flatD x = true ∧ ds.all flatD = true then some (.bl (if neg then !inD x ds else inD x ds)) else none
  | x, .lst ds => if flatD x = true ∧ ds.all flatD = true then some (.bl (if neg then !inD x ds else inD x ds)) else (inP x ds).map fun b => .bl (if neg then !b else b)
  | .str i, .str j => some (.bl (if neg then !(!(Builtin.Str.occurrences j i 0 j.length 1).isEmpty) else !(Builtin.Str.occurrences j i 0 j.length 1).isEmpty))
  | _, _ => none
def dIn : D → D → Option D := dInN false
def dNotIn : D → D → Option D := dInN true
section
variable {K : PySem.W.Frag} {o : Wo}
theorem Rep.flat {v : V} {d : D} (r : Rep K o v d) (h : flatD d = true) : flatV v = true := by cases r <;> first | rfl | cases h
theorem Rep.eqF {v u : V} {d e : D} (r : Rep K o v d) (r' : Rep K o u e) (h : flatD d = true) (h' : flatD e = true) : eqV v u = eqF d e := by
  cases r <;> first | (cases r' <;> first | rfl | cases h') | cases h
theorem Reps.flats : ∀ {vs : List V} {ds : List D}, Reps K o vs ds → ds.all flatD = true → vs.all flatV = true
  | _, _, .nil, _ => rfl
  | _, _, .cons a b, h => by
    simp only [List.all_cons, Bool.and_eq_true] at h ⊢
    exact ⟨a.flat h.1, Reps.flats b h.2⟩
theorem Reps.inF {v : V} {d : D} (r : Rep K o v d) (h : flatD d = true) : ∀ {vs : List V} {ds : List D}, Reps K o vs ds → ds.all flatD = true → inV v vs = inD d ds
  | _, _, .nil, _ => rfl
  | _, _, .cons a b, k => by
    simp only [List.all_cons, Bool.and_eq_true] at k
    have := Reps.inF r h b k.2
    unfold inV inD at this ⊢
    simp only [List.any_cons]
    rw [a.eqF r k.1 h, this]
end
theorem in_seq {X : Cx} (neg : Bool) {op : CmpOp} (hs : OpR X (compareOp op) (rIn X.K neg)) (ht : OpR X (compareOp op) (fun x y H Q => ∃ i j, x = .str i ∧ y = .str j ∧ Q (.bl (if neg then !(!(Builtin.Str.occurrences j i 0 j.length 1).isEmpty) else !(Builtin.Str.occurrences j i 0 j.length 1).isEmpty)) H))
    (hp : ∀ {pins : List (Addr × Obj)} {s : Shared} {σ : L2.St} {H : Hp} {v u : Value} {Q : VK} {ps : List PyData} {p : PyData} {as bs : List Addr}, Inv X pins σ H s → Reads s.heap u (.list ps) as → Reads s.heap v p bs → SeqAt.shaped (.list ps) = true → SeqAt.shaped p = true → Q (.bl (if neg then !(ps.any fun y => PyData.eqv y p) else ps.any fun y => PyData.eqv y p)) H → wpAny (model X.prog X.w) X.A (compareOp op v u) (EP X pins σ Q) X.xe s) :
    OpR X (compareOp op) (rD2 X.K (dInN neg)) := fun pins s σ H x y v u Q I rx ry ⟨o, st, d, e, r, w, r1, r2, eg, k⟩ => by
  unfold dInN at eg
  split at eg
  · split at eg
    · rename_i c
      cases eg
      cases r2 with
      | tup a b =>
        refine hs pins s σ H _ _ v u Q I rx ry ⟨_, _, rfl, .inr (sqT_up w a), r1.flat c.1, b.flats c.2, ?_⟩
        rw [Reps.inF r1 c.1 b c.2]
        exact k.same w (.bl _)
    · cases eg
  · split at eg
    · rename_i c
      cases eg
      cases r2 with
      | lst a b =>
        refine hs pins s σ H _ _ v u Q I rx ry ⟨_, _, rfl, .inl (sqL_up w (.inl (.inl a))), r1.flat c.1, b.flats c.2, ?_⟩
        rw [Reps.inF r1 c.1 b c.2]
        exact k.same w (.bl _)
    · obtain ⟨bb, e1, e2⟩ := Option.map_eq_some_iff.mp eg
      subst e2
      unfold inP at e1
      split at e1
      · rename_i p ps q1 q2
        split at e1
        · rename_i c
          cases e1
          obtain ⟨as, h1, _⟩ := Rep.reads I w _ (.list ps) y u r2 (by simp only [toP, q2, Option.map_some]) ry
          obtain ⟨bs, h2, _⟩ := Rep.reads I w _ p x v r1 q1 rx
          exact hp I h1 h2 c.1 c.2 (k.same w (.bl _))
        · cases e1
      · cases e1
  · cases eg
    cases r1; cases r2
    exact ht pins s σ H _ _ v u Q I rx ry ⟨_, _, rfl, rfl, k.same w (.bl _)⟩
  · cases eg
open SeqAt in
theorem bo_in {X : Cx} (hu : X.A.units + 65 < cLine) : OpR X (compareOp .In) (rD2 X.K dIn) := in_seq false op_in_seq op_in_str fun {pins s σ H v u Q ps p as bs} I h1 h2 c1 c2 q => by
  have hc : PyData.canLayAll0 ps = true := by
    have := canLay_of_shaped c1
    simpa [PyData.canLay0] using this
  exact in_list_reads h1 h2 hc (canLay_of_shaped c2) (PyProof.Rows.room_in_shaped c2 hu) ⟨.bl _, H, I, rfl, q⟩
open SeqAt in
theorem bo_notIn {X : Cx} (hu : X.A.units + 65 < cLine) : OpR X (compareOp .NotIn) (rD2 X.K dNotIn) := in_seq true op_notIn_seq op_notin_str fun {pins s σ H v u Q ps p as bs} I h1 h2 c1 c2 q => by
  have hc : PyData.canLayAll0 ps = true := by
    have := canLay_of_shaped c1
    simpa [PyData.canLay0] using this
  exact notIn_list_reads h1 h2 hc (canLay_of_shaped c2) (PyProof.Rows.room_in_shaped c2 hu) ⟨.bl _, H, I, rfl, q⟩
end DS
namespace DS
open PySem L2
/-! ## objects in the heap -/
section
variable {K : PySem.W.Frag} {o o1 o2 : Wo} {H H1 H2 : Hp} {st st1 st2 : Store}
theorem zip_rep : ∀ {ns : List Str} {vs : List V} {xs : List D} {f : Str}, ns.length = vs.length → Reps K o vs xs →
    (∀ d, (ns.zip xs).lookup f = some d → ∃ v, (ns.zip vs).lookup f = some v ∧ Rep K o v d) ∧ ((ns.zip xs).lookup f = none → (ns.zip vs).lookup f = none)
  | [], _, _, f, _, _ => ⟨fun d h => by simp at h, fun _ => by simp⟩
  | n :: ns, [], [], f, h, .nil => by simp at h
  | n :: ns, v :: vs, d :: ds, f, h, .cons a b => by
    have ih := zip_rep (ns := ns) (f := f) (by simpa using h) b
    rw [List.zip_cons_cons, List.zip_cons_cons]
    by_cases e : f = n
    · subst e
      refine ⟨fun z q => ?_, fun q => ?_⟩
      · rw [List.lookup_cons_self] at q ⊢
        cases q
        exact ⟨v, rfl, a⟩
      · rw [List.lookup_cons_self] at q
        cases q
    · have ne : (f == n) = false := by simpa using e
      refine ⟨fun z q => ?_, fun q => ?_⟩
      · rw [List.lookup_cons, ne] at q ⊢
        exact ih.1 z q
      · rw [List.lookup_cons, ne] at q ⊢
        exact ih.2 q
/-- how an object stands -/
theorem obj_view {v : V} {d : D} {c : Str} (w : Wd K o H st) (r : Rep K o v d) (h : clsOf d st = some c) : ∃ a dx fs, v = .ref a ∧ H a = some (.ins (He.ga K c) dx fs) ∧
    (∀ f z, (fldsOf d st).lookup f = some z → ∃ u, fs.lookup f = some u ∧ Rep K o u z) ∧ (∀ f, (fldsOf d st).lookup f = none → fs.lookup f = none) := by
  cases r with
  | obj h1 h2 h3 h4 =>
    cases h
    exact ⟨_, _, _, rfl, w.sub _ _ h1, fun f z q => (zip_rep h3 h4).1 z q, fun f q => (zip_rep h3 h4).2 q⟩
  | cell hi =>
    obtain ⟨cl, e1, e2⟩ := w.cel' hi
    unfold clsOf at h
    unfold fldsOf
    simp only [e1] at h ⊢
    cases cl with
    | obj c' ns xs =>
      cases h
      obtain ⟨_, dx, vs, a1, a2, a3, a4⟩ := e2
      exact ⟨_, _, _, rfl, a1, fun f z q => (zip_rep a3 a4).1 z q, fun f q => (zip_rep a3 a4).2 q⟩
    | _ => cases h
  | _ => cases h
theorem putN_len (f : Str) : ∀ ns : List Str, (putN f ns).length ≤ ns.length + 1
  | [] => Nat.le_refl _
  | g :: r => by
    unfold putN
    split
    · simp
    · have := putN_len f r
      simp only [List.length_cons]
      omega
theorem putX_len {α : Type} (f : Str) (d : α) : ∀ (ns : List Str) (xs : List α), ns.length = xs.length → (putN f ns).length = (putX f d ns xs).length
  | [], [], _ => rfl
  | [], _ :: _, h => by simp at h
  | _ :: _, [], h => by simp at h
  | g :: r, x :: xs, h => by
    have ih := putX_len f d r xs (by simpa using h)
    unfold putN putX
    split
    · simpa using h
    · simp only [List.length_cons, ih]
theorem putF_zip (f : Str) (v : V) : ∀ (ns : List Str) (vs : List V), ns.length = vs.length → putF f v (ns.zip vs) = (putN f ns).zip (putX f v ns vs)
  | [], [], _ => rfl
  | [], _ :: _, h => by simp at h
  | _ :: _, [], h => by simp at h
  | g :: r, x :: xs, h => by
    have ih := putF_zip f v r xs (by simpa using h)
    rw [List.zip_cons_cons]
    unfold putF putN putX
    split
    · rfl
    · rw [ih]
      rfl
theorem putX_rep {f : Str} {v : V} {d : D} (q : Rep K o v d) : ∀ {ns : List Str} {vs : List V} {xs : List D}, Reps K o vs xs → Reps K o (putX f v ns vs) (putX f d ns xs)
  | [], _, _, _ => .cons q .nil
  | g :: r, _, _, .nil => .cons q .nil
  | g :: r, _, _, .cons a b => by
    unfold putX
    split
    · exact .cons q b
    · exact .cons a (putX_rep q b)
/-- a new instance -/
theorem new_obj (w : Wd K o H st) {x dx : Addr} (hx : H x = none) (hd : H dx = none) (ne : dx ≠ x) (c : Str) :
    Wd K ((o.put dx (.own x)).more x) (upd (upd H dx (.own x)) x (.ins (He.ga K c) dx [])) (st ++ [.obj c [] []]) ∧ Ext o H ((o.put dx (.own x)).more x) (upd (upd H dx (.own x)) x (.ins (He.ga K c) dx [])) ∧
    Rep K ((o.put dx (.own x)).more x) (.ref x) (.cell st.length) ∧ ((o.put dx (.own x)).more x).m st.length = x := by
  have w1 := put_wd w hd (u := .own x)
  have e1 := put_ext w hd (u := .own x)
  have hx1 : upd H dx (.own x) x = none := by rw [upd_ne (Ne.symm ne)]; exact hx
  have hF : (o.put dx (.own x)).F dx = some (.own x) := upd_same
  have w2 := more_wd (x := .ins (He.ga K c) dx []) (cl := .obj c [] []) w1 hx1 ⟨w1.fnone hx1, dx, [], upd_same, hF, rfl, .nil⟩
  have e2 := more_ext w1 hx1 (u := .ins (He.ga K c) dx [])
  have em : ((o.put dx (.own x)).more x).m st.length = x := by
    show (if st.length = o.n then x else o.m st.length) = x
    rw [if_pos w.n.symm]
  refine ⟨w2, e1.trans w1 e2, ?_, em⟩
  have q := Rep.cell (K := K) (o := (o.put dx (.own x)).more x) (i := st.length) (by show st.length < o.n + 1; rw [w.n]; exact Nat.lt_succ_self _)
  rw [em] at q
  exact q
/-- it is frozen -/
theorem freeze_obj (e : Ext o H o2 H2) {i : Nat} (hi : o.n ≤ i) (w2 : Wd K o2 H2 st2) {c : Str} {ns : List Str} {xs : List D} (hs : st2[i]? = some (.obj c ns xs)) :
    ∃ o3, Wd K o3 H2 (st2.set i .dead) ∧ Ext o H o3 H2 ∧ Rep K o3 (.ref (o2.m i)) (.obj c ns xs) := by
  have hl : i < o2.n := by rw [w2.n]; exact (List.getElem?_eq_some_iff.mp hs).1
  obtain ⟨zF, dx, vs, a1, a2, a3, a4⟩ := w2.cel i _ hs
  have fresh : H (o2.m i) = none := e.cel i hi hl
  have s3 : Sub o2 (o2.put (o2.m i) (.ins (He.ga K c) dx (ns.zip vs))) := ⟨fun a u q => by
    show upd o2.F _ _ a = some u
    rw [upd_ne (ne_of_none q zF)]
    exact q, fun _ _ => rfl, Nat.le_refl _⟩
  refine ⟨o2.put (o2.m i) (.ins (He.ga K c) dx (ns.zip vs)), ⟨by rw [List.length_set]; exact w2.n, fun a u q => ?_, fun j cl q => ?_, w2.inj⟩, ⟨e.sub.trans s3, fun a u q n => ?_, e.cel, e.keep⟩, ?_⟩
  · by_cases ea : a = o2.m i
    · subst ea
      have q : upd o2.F (o2.m i) _ (o2.m i) = some u := q
      rw [upd_same] at q
      rw [a1]
      exact q
    · have q : upd o2.F (o2.m i) _ a = some u := q
      rw [upd_ne ea] at q
      exact w2.sub a u q
  · by_cases ej : i = j
    · subst ej
      rw [List.getElem?_set_self (by rw [← w2.n]; exact hl)] at q
      cases q
      exact ⟨_, upd_same, a1⟩
    · rw [List.getElem?_set_ne ej] at q
      have hj : j < o2.n := by rw [w2.n]; exact (List.getElem?_eq_some_iff.mp q).1
      refine (w2.cel j cl q).move s3 (fun z => ?_) fun _ z => z
      show upd o2.F _ _ (o2.m j) = none
      rw [upd_ne (fun z => ej (w2.inj j i hj hl z).symm)]
      exact z
  · by_cases ea : a = o2.m i
    · rw [ea]
      exact fresh
    · have q : upd o2.F (o2.m i) _ a = some u := q
      rw [upd_ne ea] at q
      exact e.new a u q n
  · exact .obj upd_same (s3.f _ _ a2) a3 (a4.mono s3)
end
end DS
namespace DS
open PySem L2 PyProof.Rows
/-! ## calls -/
/-- a def's promise, where no repr is under way -/
structure FnG (P : Program) (w : World) (K : PySem.W.Frag) (mg : Str → Option Value) (base : Heap) (k : Nat) (f : Addr) (fd : FuncData) (ps : List Str) (sp : Sp) : Prop where
  len : ∀ vs H Q E, sp vs H Q E → vs.length = ps.length
  go : ∀ (A : Around) (outer : List Env) (s : Shared) (H : Hp) (args : Args) (us : List Value) (vs : List V) (Q : VK) (E : XK), Room k A → A.guards = some [] → Env0 P w K mg base A outer s H →
    BindsTo s fd args (ps.zip us) → Vals vs us → sp vs H Q E → codeAny (model P w) A (.call (.ref f) args) (CR (L2.CX P w) outer P w H s Q E) s
theorem FnG.mono {P : Program} {w : World} {K : PySem.W.Frag} {mg : Str → Option Value} {base : Heap} {j k : Nat} {f : Addr} {fd : FuncData} {ps : List Str} {sp : Sp} (F : FnG P w K mg base j f fd ps sp) (h : j ≤ k) : FnG P w K mg base k f fd ps sp :=
  ⟨F.len, fun A outer s H args us vs Q E hr => F.go A outer s H args us vs Q E (hr.mono h)⟩
/-- what a def does, by its plain meaning -/
def Prom (K : PySem.W.Frag) (n : Nat) (g : List D → Store → Res D) : Sp := fun vs H Q E => vs.length = n ∧ ∃ o ds st, Wd K o H st ∧ Reps K o vs ds ∧ OutD K E o H (g ds st) Q
def pickU (us ws dv : List Value) : Src → Value
  | .pos i => us.getD i .none
  | .kw j => ws.getD j .none
  | .dfl k _ => dv.getD k .none
  | .star _ => .none
def pickV (us ws : List V) (dz : Nat → V) : Src → V
  | .pos i => us.getD i .non
  | .kw j => ws.getD j .non
  | .dfl k _ => dz k
  | .star _ => .non
def noStar : List Src → Bool
  | [] => true
  | .star _ :: _ => false
  | _ :: r => noStar r
/-- a call with n values and keywords ks comes to what g says -/
def RunAt (P : Program) (w : World) (K : PySem.W.Frag) (mg : Str → Option Value) (base : Heap) (k : Nat) (a : Addr) (n : Nat) (ks : List Str) (g : List D → List D → Store → Res D) : Prop :=
  ∀ (A : Around) (outer : List Env) (s : Shared) (H : Hp) (us ws : List Value) (vs zs : List V) (Q : VK) (E : XK), Room k A → A.guards = some [] → Env0 P w K mg base A outer s H → Vals vs us → Vals zs ws → vs.length = n → zs.length = ks.length →
    (∃ o ds es st, Wd K o H st ∧ Reps K o vs ds ∧ Reps K o zs es ∧ OutD K E o H (g ds es st) Q) → codeAny (model P w) A (.call (.ref a) ⟨us, ks.zip ws⟩) (CR (L2.CX P w) outer P w H s Q E) s
theorem RunAt.mono {P : Program} {w : World} {K : PySem.W.Frag} {mg : Str → Option Value} {base : Heap} {j k : Nat} {a : Addr} {n : Nat} {ks : List Str} {g : List D → List D → Store → Res D} (F : RunAt P w K mg base j a n ks g) (h : j ≤ k) : RunAt P w K mg base k a n ks g :=
  fun A outer s H us ws vs zs Q E hr => F A outer s H us ws vs zs Q E (hr.mono h)
/-- .. by a def's promise -/
theorem runAt_of {P : Program} {w : World} {K : PySem.W.Frag} {mg : Str → Option Value} {base : Heap} {k n : Nat} {a : Addr} {fd : FuncData} {ps ks : List Str} {g : List D → Store → Res D} {src : List Src} {dv : List Value}
    (F : FnG P w K mg base k a fd ps (Prom K ps.length g)) (sl : src.length = ps.length) (ns : noStar src = true)
    (hb : ∀ (s : Shared) (us ws : List Value), K.In s.heap → us.length = n → ws.length = ks.length → BindsTo s fd ⟨us, ks.zip ws⟩ (ps.zip (src.map (pickU us ws dv))))
    (hd : ∀ k d, Src.dfl k d ∈ src → ∃ v, RelV v (dv.getD k .none) ∧ ∀ o, Rep K o v d) : RunAt P w K mg base k a n ks (fun ds es st => g (src.map (pickD ds es)) st) := by
  intro A outer s H us ws vs zs Q E hr hgd e0 rv rz l1 l2 ⟨o, ds, es, st, w1, r1, r2, h⟩
  have lu : us.length = n := by rw [← rv.length]; exact l1
  have lw : ws.length = ks.length := by rw [← rz.length]; exact l2
  have hdv : ∃ dz : Nat → V, ∀ k d, Src.dfl k d ∈ src → RelV (dz k) (dv.getD k .none) ∧ ∀ o, Rep K o (dz k) d := by
    refine ⟨fun k => (absV (dv.getD k .none)).getD .non, fun k d hm => ?_⟩
    obtain ⟨v, q1, q2⟩ := hd k d hm
    show RelV ((absV (dv.getD k .none)).getD .non) _ ∧ ∀ o, Rep K o ((absV (dv.getD k .none)).getD .non) d
    rw [q1.abs]
    exact ⟨q1, q2⟩
  obtain ⟨dz, hdz⟩ := hdv
  have rel : ∀ l : List Src, noStar l = true → (∀ k d, Src.dfl k d ∈ l → Src.dfl k d ∈ src) → Vals (l.map (pickV vs zs dz)) (l.map (pickU us ws dv)) ∧ Reps K o (l.map (pickV vs zs dz)) (l.map (pickD ds es)) := by
    intro l
    induction l with
    | nil => exact fun _ _ => ⟨.nil, .nil⟩
    | cons q l ih =>
      intro hn hl
      have gv : ∀ {vs : List V} {us : List Value}, Vals vs us → ∀ i, RelV (vs.getD i .non) (us.getD i .none) := fun {vs us} rv i => by
        rw [List.getD_eq_getElem?_getD, List.getD_eq_getElem?_getD]
        cases e : vs[i]? with
        | none => rw [rv.none_of e]; rfl
        | some v => obtain ⟨u, e1, e2⟩ := rv.get e; rw [e1]; exact e2
      have gr : ∀ {vs : List V} {ds : List D}, Reps K o vs ds → ∀ i, Rep K o (vs.getD i .non) (ds.getD i .non) := fun {vs ds} rv i => by
        rw [List.getD_eq_getElem?_getD, List.getD_eq_getElem?_getD]
        cases e : vs[i]? with
        | none =>
          have : ds[i]? = none := by
            rw [List.getElem?_eq_none_iff] at e ⊢
            rw [← rv.len]
            exact e
          rw [this]
          exact .non
        | some v => obtain ⟨u, e1, e2⟩ := rv.getV e; rw [e1]; exact e2
      rw [List.map_cons, List.map_cons, List.map_cons]
      cases q with
      | pos i =>
        obtain ⟨i1, i2⟩ := ih hn fun k d hm => hl k d (List.mem_cons_of_mem _ hm)
        exact ⟨.cons (gv rv i) i1, .cons (gr r1 i) i2⟩
      | kw i =>
        obtain ⟨i1, i2⟩ := ih hn fun k d hm => hl k d (List.mem_cons_of_mem _ hm)
        exact ⟨.cons (gv rz i) i1, .cons (gr r2 i) i2⟩
      | dfl k d =>
        obtain ⟨i1, i2⟩ := ih hn fun k d hm => hl k d (List.mem_cons_of_mem _ hm)
        obtain ⟨q1, q2⟩ := hdz k d (hl k d List.mem_cons_self)
        exact ⟨.cons q1 i1, .cons (q2 o) i2⟩
      | star i => cases hn
  obtain ⟨q1, q2⟩ := rel src ns fun _ _ hm => hm
  have kin : K.In s.heap := e0.mod.kin.keeps fun b o e => (e0.bs b o e).1
  exact F.go A outer s H ⟨us, ks.zip ws⟩ _ _ Q E hr hgd e0 (hb s us ws kin lu lw) q1 ⟨by rw [List.length_map]; exact sl, o, _, st, w1, q2, h⟩
/-- a place of the text at which f is called with n values and keywords ks -/
def CallOk (X : Cx) (C : FEnv) (lv : Nat) (f : Str) (n : Nat) (ks : List Str) (src : List Src) : Prop :=
  ∃ a : Addr, X.mg f = some (.ref a) ∧ PySem.W.keepIn X.K (.ref a) = true ∧ RunAt X.prog X.w X.K X.mg X.base lv a n ks (fun ds es st => C f (src.map (pickD ds es)) st)
section
variable {X : Cx} {C : FEnv} {a b c : Expr} {sa sb sc : SE} {pos p : Pos} {es : List Expr} {ss sk : SA} {x : Str}
theorem h_callB {id : String} {g : List D → Option D} (hc : CallR X (.builtin id) (rDs X.K g)) (hg : Gl X x) (hm : X.mg x = none) (hv : bootBuiltins x = some (.builtin id)) (ha : HA X C (a :: es) ss) (hn : x ≠ "__name__") (hdb : (x == ("__debug__" : Str)) = false)
    (he : starEach (a :: es) X.env = (false, eval a X.env) :: starEach es X.env) (hpl : (backTo pos (starEach es X.env)).any (·.1) = false) : HE X C (.Call (.Name x p) (a :: es) [] pos) (eBlt g ss) :=
  pe_by (pe_callB hc hg hm hv ha hn hdb he hpl) fun s H Q ⟨o, r, st, w, l, h⟩ => by
    refine ⟨o, r, st, w, l, h.b fun ds st1 e1 h xs o1 H1 w1 x1 r1 => ?_⟩
    obtain ⟨z, e3, h⟩ := h.lift
    exact ⟨o1, st1, ds, z, w1, r1, e3, fun v o' H' w' x' q => h v o' H' w' (x1.trans w1 x') q⟩
theorem h_callT {T : String} {g : List D → Option D} (hc : CallR X (.type T) (rDs X.K g)) (hg : Gl X x) (hm : X.mg x = none) (hv : bootBuiltins x = some (.type T)) (ha : HA X C (a :: es) ss) (hn : x ≠ "__name__") (hdb : (x == ("__debug__" : Str)) = false)
    (he : starEach (a :: es) X.env = (false, eval a X.env) :: starEach es X.env) (hpl : (backTo pos (starEach es X.env)).any (·.1) = false) : HE X C (.Call (.Name x p) (a :: es) [] pos) (eBlt g ss) :=
  pe_by (pe_callTy hc hg hm hv ha hn hdb he hpl) fun s H Q ⟨o, r, st, w, l, h⟩ => by
    refine ⟨o, r, st, w, l, h.b fun ds st1 e1 h xs o1 H1 w1 x1 r1 => ?_⟩
    obtain ⟨z, e3, h⟩ := h.lift
    exact ⟨o1, st1, ds, z, w1, r1, e3, fun v o' H' w' x' q => h v o' H' w' (x1.trans w1 x') q⟩
theorem h_tyn {n : String} (hg : Gl X x) (hm : X.mg x = none) (hv : bootBuiltins x = some (.type n)) (hn : x ≠ "__name__") (hd : (x == ("__debug__" : Str)) = false) : HE X C (.Name x pos) (eC (.ty n)) :=
  pe_by (pe_bltn (v := .ty n) hg hm hv rfl hn hd) fun s H Q ⟨o, r, st, w, l, h⟩ => h _ o H w (.refl o H) (.ty n)
abbrev HK (X : Cx) (C : FEnv) (e : List Keyword) (s : SA) : Prop := PK X e (tDA X.K (wx X) (s C))
theorem pk_by {e : List Keyword} {t t' : TA} (h : PK X e t) (i : ∀ s H Q, t' s H Q → t s H Q) : PK X e t' := ⟨fun pos pins s σ H Q I q => h.run pos pins s σ H Q I (i _ _ _ q)⟩
theorem h_knil : HK X C [] aNil := pk_by pk_nil fun s H Q ⟨o, r, st, w, l, h⟩ => h [] o H w (.refl o H) .nil
theorem h_kcons {nm : Option Str} {kp : Pos} {kws : List Keyword} (ha : HE X C a sa) (hr : HK X C kws ss) : HK X C (⟨nm, a, kp⟩ :: kws) (aCons sa ss) :=
  pk_by (pk_cons ha hr) fun s H Q ⟨o, r, st, w, l, h⟩ => by
    exact ⟨o, r, st, w, l, h.b fun d st1 e1 h x o1 H1 w1 x1 r1 => ⟨o1, r, st1, w1, l.ext x1, (OutA.later h w1 x1).b fun ds st2 e2 h xs o2 H2 w2 x2 r2 => h _ o2 H2 w2 x2 (.cons (r1.mono x2.sub) r2)⟩⟩
/-- the call itself -/
theorem run_at {lv n : Nat} {ks : List Str} {g : List D → List D → Store → Res D} {ad : Addr} (F : RunAt X.prog X.w X.K X.mg X.base lv ad n ks g) (hr : Room lv X.A) (hgd : X.A.guards = some []) {pins : List (Addr × Obj)} {σ : L2.St} {H : Hp} {s : Shared} {Q : VK} {us ws : List Value} {vs zs : List V}
    (I : Inv X pins σ H s) (rv : Vals vs us) (rz : Vals zs ws) {o : Wo} {st : Store} {ds es : List D} (w : Wd X.K o H st) (r1 : Reps X.K o vs ds) (r2 : Reps X.K o zs es) (l1 : ds.length = n) (l2 : es.length = ks.length) (h : OutD X.K (wx X) o H (g ds es st) Q) :
    wpAny (model X.prog X.w) X.A (call (.ref ad) us (ks.zip ws)) (EP X pins σ Q) X.xe s := by
  refine wpAny_call (codeAny_mono (F X.A X.stack s H us ws vs zs Q (wx X) hr hgd I.env0 rv rz (by rw [r1.len]; exact l1) (by rw [r2.len]; exact l2) ⟨o, ds, es, st, w, r1, r2, h⟩) fun r s' hq => ?_)
  cases r with
  | error e => exact wx_call I hq
  | ok fl =>
    cases fl with
    | ret u => exact I.after hq
    | next => exact False.elim hq
    | brk => exact False.elim hq
    | cont => exact False.elim hq
theorem h_call {f : Str} {lv n : Nat} {ks : List Str} {src : List Src} {kws : List Keyword} (hx : CallOk X C lv f n ks src) (hr : Room lv X.A) (hgd : X.A.guards = some []) (hg : Gl X f) (ha : HA X C es ss) (hk : HK X C kws sk) (hl : Long n ss) (hl2 : Long ks.length sk)
    (hnil : es = [] → ss = aNil) (hall : (backToKw pos (keywordEach kws X.env)).all (·.1.isSome) = true) (hks : (backToKw pos (keywordEach kws X.env)).filterMap (·.1) = ks) (hdb : (f == ("__debug__" : Str)) = false)
    (he : ∀ e r, es = e :: r → starEach (e :: r) X.env = (false, eval e X.env) :: starEach r X.env)
    (hpl : ((backTo pos (starEach es X.env)).any (·.1) || (backToKw pos (keywordEach kws X.env)).any (·.1.isNone)) = false) :
    HE X C (.Call (.Name f p) es kws pos) (eCallK f src ss sk) := by
  refine ⟨fun pins s σ H Q I ⟨o, r, st, w, l, h⟩ => ?_⟩
  obtain ⟨ad, hm, hkp, F⟩ := hx
  refine wpAny_Call_Name_kw (ld_glob I hg hm ?_ hdb)
  have start : tDA X.K (wx X) (ss C) σ H (fun vs H1 => ∃ ds st1 o1, ss C r st = .ok ds st1 ∧ Wd X.K o1 H1 st1 ∧ Ext o H o1 H1 ∧ Reps X.K o1 vs ds ∧ OutD X.K (wx X) o H ((sk C r st1).bind fun ws st => C f (src.map (pickD ds ws)) st) Q) :=
    ⟨o, r, st, w, l, h.b fun ds st1 e1 h vs o1 H1 w1 x1 r1 => ⟨ds, st1, o1, e1, w1, x1, r1, h⟩⟩
  have fin : ∀ (us : List Value) (s1 : Shared), AP X pins σ (fun vs H1 => ∃ ds st1 o1, ss C r st = .ok ds st1 ∧ Wd X.K o1 H1 st1 ∧ Ext o H o1 H1 ∧ Reps X.K o1 vs ds ∧ OutD X.K (wx X) o H ((sk C r st1).bind fun ws st => C f (src.map (pickD ds ws)) st) Q) us s1 →
      wpAny (model X.prog X.w) X.A (evalAll ((backToKw pos (keywordEach kws X.env)).map (·.2))) (fun ks' s2 => X.K.In s2.heap ∧ wpAny (model X.prog X.w) X.A (call (.ref ad) ([] ++ us) (((backToKw pos (keywordEach kws X.env)).filterMap (·.1)).zip ks')) (EP X pins σ Q) X.xe s2) X.xe s1 := by
    intro us s1 ⟨vs, H1, I1, rv, ds, st1, o1, e1, w1, x1, r1, h⟩
    refine thn (hk.run pos pins s1 σ H1 (fun zv H2 => ∀ (ws : List Value) (s2 : Shared), Inv X pins σ H2 s2 → Vals zv ws → wpAny (model X.prog X.w) X.A (call (.ref ad) ([] ++ us) (((backToKw pos (keywordEach kws X.env)).filterMap (·.1)).zip ws)) (EP X pins σ Q) X.xe s2) I1 ⟨o1, r, st1, w1, l.ext x1, (OutD.later h w1 x1).b fun es' st2 e2 h zv o2 H2 w2 x2 r2 ws s2 I2 rz => ?_⟩) fun ws s2 ⟨zv, H2, I2, rz, q2⟩ => ⟨I2.kIn, q2 ws s2 I2 rz⟩
    rw [hks, List.nil_append]
    exact run_at F hr hgd I2 rv rz w2 (r1.mono x2.sub) r2 (hl _ _ _ _ _ e1) (hl2 _ _ _ _ _ e2) (OutD.later h w2 x2)
  cases es with
  | nil =>
    refine PySem.W.callWith_KW0 (h₀ := X.base) I.ok.mod.kin hkp hall ?_ hpl
    cases hnil rfl
    exact fin [] s ⟨[], H, I, .nil, [], st, o, rfl, w, .refl o H, .nil, h⟩
  | cons e rest =>
    exact PySem.W.callWith_KW (h₀ := X.base) I.ok.mod.kin hkp hall (thn (ha.run pos pins s σ H _ I start) fun us s1 q => fin us s1 q) hpl (he e rest rfl)
end
end DS
namespace DS
open PySem L2 PyProof.Rows
/-! ## attributes, methods, new objects -/
def AttrOk (X : Cx) (C : FEnv) (lv : Nat) (c f : Str) : AK → Prop
  | .fld => Cls X.K (He.ga X.K c) ∧ NoAttr X.K (He.ga X.K c) f
  | .con d => Cls X.K (He.ga X.K c) ∧ ∃ v u, Con X.K (He.ga X.K c) f v u ∧ ∀ o, Rep X.K o v d
  | .prop g => Cls X.K (He.ga X.K c) ∧ ∃ p a, PropOf X.K (He.ga X.K c) f p a ∧ RunAt X.prog X.w X.K X.mg X.base lv a 1 [] (fun ds _ st => C g ds st)
def MethOk (X : Cx) (C : FEnv) (lv : Nat) (c m : Str) (n : Nat) (ks : List Str) (f : Str) (src : List Src) : Prop :=
  Cls X.K (He.ga X.K c) ∧ ∃ a, Meth X.K (He.ga X.K c) m a ∧ RunAt X.prog X.w X.K X.mg X.base lv a n ks (fun ds es st => C f (src.map (pickD ds es)) st)
def MkOk (X : Cx) (C : FEnv) (lv : Nat) (c : Str) (n : Nat) (ks : List Str) (f : Str) (src : List Src) : Prop :=
  X.mg c = some (.ref (He.ga X.K c)) ∧ ∃ a, Mk X.K (He.ga X.K c) a ∧ RunAt X.prog X.w X.K X.mg X.base lv a (n + 1) ks (fun ds es st => C f (src.map (pickD ds es)) st)
section
variable {X : Cx} {C : FEnv} {e : Expr} {sa so : SE} {f m c : Str} {pos apos p : Pos} {es : List Expr} {ss sk : SA} {kws : List Keyword} {lv n : Nat} {ks : List Str}
/-- what an expression gives, told once -/
theorem start_e {pins : List (Addr × Obj)} {s : Shared} {σ : L2.St} {H : Hp} {o : Wo} {r : REnv} {st : Store} {f : D → Store → Res D} {Q : VK} (ha : HE X C e sa) (I : Inv X pins σ H s) (w : Wd X.K o H st) (l : LocOk X.K o σ H r) (h : OutD X.K (wx X) o H ((sa C r st).bind f) Q) :
    wpAny (model X.prog X.w) X.A (eval e X.env) (EP X pins σ (fun x H1 => ∃ d st1 o1, sa C r st = .ok d st1 ∧ OutD X.K (wx X) o H (f d st1) Q ∧ Wd X.K o1 H1 st1 ∧ Ext o H o1 H1 ∧ Rep X.K o1 x d)) X.xe s :=
  ha.run pins s σ H _ I ⟨o, r, st, w, l, h.b fun d st1 e1 h v o1 H1 w1 x1 r1 => ⟨d, st1, o1, e1, h, w1, x1, r1⟩⟩
theorem OutD.no {K : PySem.W.Frag} {E E' : XK} {o : Wo} {H : Hp} {r : Res D} {Q : VK} (h : OutD K E o H (noX r) Q) : OutD K E' o H r Q := by
  cases r with
  | ok d st => exact h
  | exc _ _ => exact (show False from h).elim
  | bad => exact h
theorem h_attr {tab : List (Str × AK)} (ha : HE X C e sa) (hb : attributeBase e f X.env (eval e X.env) = eval e X.env) (hr : Room (lv + 1) X.A) (hgd : X.A.guards = some []) (ht : ∀ c k, tab.lookup c = some k → AttrOk X C lv c f k) :
    HE X C (.Attribute e f pos) (eAttr f tab sa) := by
  refine ⟨fun pins s σ H Q I ⟨o, r, st, w, l, h⟩ => ?_⟩
  refine attr_of hb (thn (start_e ha I w l h) fun u s1 ⟨x, H1, I1, rx, d, st1, o1, e1, h, w1, x1, r1⟩ => ?_)
  unfold attrD at h
  cases ec : clsOf d st1 with
  | none => rw [ec] at h; exact h.elim
  | some c =>
    rw [ec] at h
    simp only at h
    cases et : tab.lookup c with
    | none => rw [et] at h; exact h.elim
    | some k =>
      rw [et] at h
      obtain ⟨a, dx, fs, rfl, ea, v1, v2⟩ := obj_view w1 r1 ec
      obtain rfl : u = Value.ref a := rx
      have hk := ht c k et
      cases k with
      | fld =>
        obtain ⟨z, e3, h⟩ := OutR.lift h
        obtain ⟨v, q1, q2⟩ := v1 f z e3
        exact getattr_ok I1 ea hk.1 hk.2 q1 fun u' s2 I2 ru => ⟨v, H1, I2, ru, h v o1 H1 w1 x1 q2⟩
      | con d' =>
        obtain ⟨cl, v, u, cn, rp⟩ := hk
        simp only at h
        cases el : (fldsOf d st1).lookup f with
        | some _ => rw [el] at h; exact h.elim
        | none =>
          rw [el] at h
          exact getcon_ok I1 ea cl cn (v2 f el) fun s2 I2 => ⟨v, H1, I2, cn.rel, h v o1 H1 w1 x1 (rp o1)⟩
      | prop g =>
        obtain ⟨cl, pa, ga, hp, F⟩ := hk
        obtain ⟨mA, O, _, _, _, _⟩ := ins_get I1.hok ea
        obtain ⟨od, J, _⟩ := O.look
        obtain ⟨rest, hrec⟩ := hp.rec_
        have I2 := I1.tok (s1.toks + 1)
        have hc : (PySem.W.clsIn X.K (He.ga X.K c)).isSome = true := by
          obtain ⟨cd, hc, _⟩ := PySem.W.any_some cl.hd
          rw [hc]
          rfl
        refine PySem.W.get_bind I1.kIn J (PySem.W.plainGet_of (cl.get f)).1 (PySem.W.findObj_data hc hp.at_ hp.get hp.tak) (PySem.W.plainGet_of (cl.get f)).2 (wpAny_call (PySem.W.prop_get (s := { s1 with toks := s1.toks + 1 }) I1.kIn hrec ?_))
        refine codeAny_mono (F X.A.in1 X.stack { s1 with toks := s1.toks + 1 } H1 [.ref a] [] [.ref a] [] Q E0 hr.in1 hgd I2.env0.in1 (.cons rfl .nil) .nil rfl rfl ⟨o1, [d], [], st1, w1, .cons r1 .nil, .nil, OutD.no (OutD.later h w1 x1)⟩) fun r s' hq => ?_
        cases r with
        | error er => exact False.elim (passL (X := X.nox) pins σ H1 _ er s' (I2.wish _) hq)
        | ok fl =>
          cases fl with
          | ret u =>
            obtain ⟨v, H', I3, rv, q3⟩ := I2.after hq
            show wpAny _ _ (handedOut u) _ _ _
            rw [PySem.W.handedOut_of (handed_of rv)]
            exact wpAny_pure ⟨v, H', I3, rv, q3⟩
          | next => exact False.elim hq
          | brk => exact False.elim hq
          | cont => exact False.elim hq
/-- the arguments of a call, then the call -/
theorem with_args {fv : Value} {first : List Value} {pins : List (Addr × Obj)} {s : Shared} {σ : L2.St} {H : Hp} {o : Wo} {r : REnv} {st : Store} {f : List D → List D → Store → Res D} {Q : VK} (hkp : PySem.W.keepIn X.K fv = true) (ha : HA X C es ss) (hk : HK X C kws sk)
    (hnil : es = [] → ss = aNil) (hall : (backToKw pos (keywordEach kws X.env)).all (·.1.isSome) = true) (hks : (backToKw pos (keywordEach kws X.env)).filterMap (·.1) = ks)
    (he : ∀ e r, es = e :: r → starEach (e :: r) X.env = (false, eval e X.env) :: starEach r X.env)
    (hpl : ((backTo pos (starEach es X.env)).any (·.1) || (backToKw pos (keywordEach kws X.env)).any (·.1.isNone)) = false)
    (I : Inv X pins σ H s) (w : Wd X.K o H st) (l : LocOk X.K o σ H r) (h : OutD X.K (wx X) o H ((ss C r st).bind fun us st => (sk C r st).bind fun ws st => f us ws st) Q)
    (fin : ∀ (us ws : List D) (st1 st2 : Store), ss C r st = .ok us st1 → sk C r st1 = .ok ws st2 → ∀ (uv wv : List Value) (vs zs : List V) (s2 : Shared) (H2 : Hp) (o2 : Wo), Inv X pins σ H2 s2 → Vals vs uv → Vals zs wv → Wd X.K o2 H2 st2 → Ext o H o2 H2 → Reps X.K o2 vs us → Reps X.K o2 zs ws → OutD X.K (wx X) o2 H2 (f us ws st2) Q → wpAny (model X.prog X.w) X.A (call fv (first ++ uv) (ks.zip wv)) (EP X pins σ Q) X.xe s2) :
    wpAny (model X.prog X.w) X.A (callWith pos fv first (backTo pos (starEach es X.env)) (backToKw pos (keywordEach kws X.env))) (EP X pins σ Q) X.xe s := by
  have start : tDA X.K (wx X) (ss C) σ H (fun vs H1 => ∃ us st1 o1, ss C r st = .ok us st1 ∧ Wd X.K o1 H1 st1 ∧ Ext o H o1 H1 ∧ Reps X.K o1 vs us ∧ OutD X.K (wx X) o H ((sk C r st1).bind fun ws st => f us ws st) Q) :=
    ⟨o, r, st, w, l, h.b fun us st1 e1 h vs o1 H1 w1 x1 r1 => ⟨us, st1, o1, e1, w1, x1, r1, h⟩⟩
  have go : ∀ (uv : List Value) (s1 : Shared), AP X pins σ (fun vs H1 => ∃ us st1 o1, ss C r st = .ok us st1 ∧ Wd X.K o1 H1 st1 ∧ Ext o H o1 H1 ∧ Reps X.K o1 vs us ∧ OutD X.K (wx X) o H ((sk C r st1).bind fun ws st => f us ws st) Q) uv s1 →
      wpAny (model X.prog X.w) X.A (evalAll ((backToKw pos (keywordEach kws X.env)).map (·.2))) (fun ks' s2 => X.K.In s2.heap ∧ wpAny (model X.prog X.w) X.A (call fv (first ++ uv) (((backToKw pos (keywordEach kws X.env)).filterMap (·.1)).zip ks')) (EP X pins σ Q) X.xe s2) X.xe s1 := by
    intro uv s1 ⟨vs, H1, I1, rv, us, st1, o1, e1, w1, x1, r1, h⟩
    refine thn (hk.run pos pins s1 σ H1 (fun zv H2 => ∀ (wv : List Value) (s2 : Shared), Inv X pins σ H2 s2 → Vals zv wv → wpAny (model X.prog X.w) X.A (call fv (first ++ uv) (((backToKw pos (keywordEach kws X.env)).filterMap (·.1)).zip wv)) (EP X pins σ Q) X.xe s2) I1 ⟨o1, r, st1, w1, l.ext x1, (OutD.later h w1 x1).b fun ws st2 e2 h zv o2 H2 w2 x2 r2 wv s2 I2 rz => ?_⟩) fun wv s2 ⟨zv, H2, I2, rz, q2⟩ => ⟨I2.kIn, q2 wv s2 I2 rz⟩
    rw [hks]
    exact fin us ws st1 st2 e1 e2 uv wv vs zv s2 H2 o2 I2 rv rz w2 (x1.trans w1 x2) (r1.mono x2.sub) r2 (OutD.later h w2 x2)
  cases es with
  | nil =>
    refine PySem.W.callWith_KW0 (h₀ := X.base) I.ok.mod.kin hkp hall ?_ hpl
    cases hnil rfl
    exact go [] s ⟨[], H, I, .nil, [], st, o, rfl, w, .refl o H, .nil, h⟩
  | cons e rest =>
    exact PySem.W.callWith_KW (h₀ := X.base) I.ok.mod.kin hkp hall (thn (ha.run pos pins s σ H _ I start) fun us s1 q => go us s1 q) hpl (he e rest rfl)
theorem h_meth {tab : List (Str × Str × List Src)} {pl : Sem Bool} (ho : HE X C e so) (hr : Room lv X.A) (hgd : X.A.guards = some []) (ha : HA X C es ss) (hk : HK X C kws sk) (hl : Long n ss) (hl2 : Long ks.length sk)
    (hnil : es = [] → ss = aNil) (hall : (backToKw pos (keywordEach kws X.env)).all (·.1.isSome) = true) (hks : (backToKw pos (keywordEach kws X.env)).filterMap (·.1) = ks)
    (he : ∀ e r, es = e :: r → starEach (e :: r) X.env = (false, eval e X.env) :: starEach r X.env)
    (hpl : ((backTo pos (starEach es X.env)).any (·.1) || (backToKw pos (keywordEach kws X.env)).any (·.1.isNone)) = false)
    (ht : eval (.Call (.Attribute e m apos) es kws pos) X.env = (do
      let ov ← eval e X.env
      standAt apos.atName
      let (f, first) ← holding [ov] (getMethod ov m pl)
      callWith pos f first (backTo pos (starEach es X.env)) (backToKw pos (keywordEach kws X.env))))
    (htab : ∀ c f src, tab.lookup c = some (f, src) → MethOk X C lv c m (n + 1) ks f src) : HE X C (.Call (.Attribute e m apos) es kws pos) (eMeth m tab so ss sk) := by
  refine ⟨fun pins s σ H Q I ⟨o, r, st, w, l, h⟩ => ?_⟩
  refine PySem.W.methodCall_KW (pl := pl) (thn (start_e ho I w l h) fun u s1 ⟨x, H1, I1, rx, d, st1, o1, e1, h, w1, x1, r1⟩ => ?_) ht
  obtain ⟨fs, e2, h⟩ := OutR.liftB h
  unfold pickM at e2
  cases ec : clsOf d st1 with
  | none => rw [ec] at e2; cases e2
  | some c =>
    rw [ec] at e2
    simp only at e2
    cases el : (fldsOf d st1).lookup m with
    | some _ => rw [el] at e2; cases e2
    | none =>
      rw [el] at e2
      obtain ⟨a, dx, flds, rfl, ea, v1, v2⟩ := obj_view w1 r1 ec
      obtain rfl : u = Value.ref a := rx
      obtain ⟨f, src⟩ := fs
      obtain ⟨cl, ad, mt, F⟩ := htab c f src e2
      refine getmeth_ok I1 ea cl mt (v2 m el) ?_
      refine with_args mt.kp ha hk hnil hall hks he hpl I1 w1 (l.ext x1) (OutD.later h w1 x1) fun us ws st2 st3 e3 e4 uv wv vs zs s2 H2 o2 I2 rv rz w2 x2 q1 q2 h => ?_
      exact run_at F hr hgd I2 (us := .ref a :: uv) (vs := .ref a :: vs) (.cons rfl rv) rz w2 (.cons (r1.mono x2.sub) q1) q2 (by rw [List.length_cons, hl _ _ _ _ _ e3]) (hl2 _ _ _ _ _ e4) h
theorem under_guards {A : Around} {cs : Addr} {us : List Value} {kw : List (Str × Value)} (h : A.guards = some []) : (A.under (.builtin "type.__call__" ⟨.ref cs :: us, kw⟩)).guards = some [] := by
  first
    | exact h
    | simpa [Around.under, Code.weight, Code.isCreation, Code.isGuard, Code.isCaller, Code.frames, Code.isFrame, guardIds] using h
/-- C(..): a new object, __init__, then it never changes -/
theorem run_mk {f : Str} {src : List Src} {ad : Addr} (M : Mk X.K (He.ga X.K c) ad) (F : RunAt X.prog X.w X.K X.mg X.base lv ad (n + 1) ks (fun ds es st => C f (src.map (pickD ds es)) st)) (hr : Room (lv + 1) X.A) (hgd : X.A.guards = some []) {pins : List (Addr × Obj)} {σ : L2.St} {H : Hp} {s : Shared} {Q : VK} {us ws : List Value} {vs zs : List V}
    (I : Inv X pins σ H s) (rv : Vals vs us) (rz : Vals zs ws) {o : Wo} {st : Store} {ds es : List D} (w : Wd X.K o H st) (r1 : Reps X.K o vs ds) (r2 : Reps X.K o zs es) (l1 : ds.length = n) (l2 : es.length = ks.length)
    (h : OutD X.K (wx X) o H ((C f (src.map (pickD (.cell st.length :: ds) es)) (st ++ [.obj c [] []])).bind fun v st' => frzD st.length v st') Q) :
    wpAny (model X.prog X.w) X.A (call (.ref (He.ga X.K c)) us (ks.zip ws)) (EP X pins σ Q) X.xe s := by
  have hx := I.hok.fresh (Nat.le_succ s.heap.objs.size)
  have hd := I.hok.fresh (Nat.le_refl s.heap.objs.size)
  have ne : s.heap.objs.size ≠ s.heap.objs.size + 1 := Nat.ne_of_lt (Nat.lt_succ_self _)
  obtain ⟨w2, x2, rc, em⟩ := new_obj w hx hd ne c
  have I2 := Inv.made (C := He.ga X.K c) I
  refine wpAny_call (make_map (f := ad) I.kIn M.makes M.init (beq_iff_eq.mp M.fn) (codeAny_mono (F _ X.stack _ _ (.ref (s.heap.objs.size + 1) :: us) ws (.ref (s.heap.objs.size + 1) :: vs) zs (fun v H3 => v = .non ∧ Q (.ref (s.heap.objs.size + 1)) H3) (wx X) (hr.make (He.ga X.K c) us (ks.zip ws)) (under_guards hgd)
    (I2.env0.make (He.ga X.K c) us (ks.zip ws)) (.cons rfl rv) rz (by rw [List.length_cons, r1.len, l1]) (by rw [r2.len]; exact l2) ⟨_, .cell st.length :: ds, es, _, w2, .cons rc (r1.mono x2.sub), r2.mono x2.sub, ?_⟩) fun r s' hq' => ?_))
  · show OutD X.K (wx X) _ _ (C f (src.map (pickD (.cell st.length :: ds) es)) (st ++ [.obj c [] []])) _
    refine OutR.bx h (fun _ _ z => OutX.later z w2 x2) fun v0 st' e1 h v' o3 H3 w3 x3 r3 => ?_
    unfold frzD at h
    split at h
    · rename_i c' ns xs hs
      cases r3
      obtain ⟨o4, w4, x4, r4⟩ := freeze_obj (x2.trans w2 x3) (Nat.le_of_eq w.n) w3 hs
      have em3 : o3.m st.length = s.heap.objs.size + 1 := by
        rw [x3.sub.m st.length (by show st.length < o.n + 1; rw [w.n]; exact Nat.lt_succ_self _)]
        exact em
      rw [em3] at r4
      exact ⟨rfl, h _ o4 H3 w4 x4 r4⟩
    · exact h.elim
  · cases r with
    | error er => exact wx_call I2 hq'
    | ok fl =>
      cases fl with
      | ret u =>
        obtain ⟨v, H', I3, rv', ev, q3⟩ := I2.after hq'
        subst ev
        exact ⟨rv', ⟨V.ref (s.heap.objs.size + 1), H', I3, rfl, q3⟩⟩
      | next => exact False.elim hq'
      | brk => exact False.elim hq'
      | cont => exact False.elim hq'
theorem h_make {f : Str} {src : List Src} (hx : MkOk X C lv c n ks f src) (hr : Room (lv + 1) X.A) (hgd : X.A.guards = some []) (hg : Gl X c) (ha : HA X C es ss) (hk : HK X C kws sk) (hl : Long n ss) (hl2 : Long ks.length sk)
    (hnil : es = [] → ss = aNil) (hall : (backToKw pos (keywordEach kws X.env)).all (·.1.isSome) = true) (hks : (backToKw pos (keywordEach kws X.env)).filterMap (·.1) = ks) (hdb : (c == ("__debug__" : Str)) = false)
    (he : ∀ e r, es = e :: r → starEach (e :: r) X.env = (false, eval e X.env) :: starEach r X.env)
    (hpl : ((backTo pos (starEach es X.env)).any (·.1) || (backToKw pos (keywordEach kws X.env)).any (·.1.isNone)) = false) :
    HE X C (.Call (.Name c p) es kws pos) (eMake c f src ss sk) := by
  refine ⟨fun pins s σ H Q I ⟨o, r, st, w, l, h⟩ => ?_⟩
  obtain ⟨hm, ad, M, F⟩ := hx
  refine wpAny_Call_Name_kw (ld_glob I hg hm ?_ hdb)
  refine with_args (first := []) M.kp ha hk hnil hall hks he hpl I w l h fun us ws st1 st2 e1 e2 uv wv vs zs s2 H2 o2 I2 rv rz w2 x2 q1 q2 h => ?_
  exact run_mk M F hr hgd I2 rv rz w2 q1 q2 (hl _ _ _ _ _ e1) (hl2 _ _ _ _ _ e2) h
end
end DS
namespace DS
open PySem L2
/-! ## targets, walks, comprehensions -/
section
variable {K : PySem.W.Frag} {o : Wo} {H : Hp} {st : Store}
theorem LocOk.put {s : L2.St} {r : REnv} (l : LocOk K o s H r) (i : Nat) {v : V} {d : D} (q : Rep K o v d) : LocOk K o (s.set i (some v)) H (r.set i (.val d)) where
  len := by rw [List.length_set, List.length_set]; exact l.len
  val := fun j e h => by
    by_cases c : i = j
    · subst c
      have hl : i < r.length := by
        have := (List.getElem?_eq_some_iff.mp h).1
        rw [List.length_set] at this
        exact this
      rw [List.getElem?_set_self hl] at h
      cases h
      exact ⟨v, by rw [List.getElem?_set_self (by rw [l.len]; exact hl)], q⟩
    · rw [List.getElem?_set_ne c] at h ⊢
      exact l.val j e h
  own := fun j xs h => by
    by_cases c : i = j
    · subst c
      have hl : i < r.length := by
        have := (List.getElem?_eq_some_iff.mp h).1
        rw [List.length_set] at this
        exact this
      rw [List.getElem?_set_self hl] at h
      cases h
    · rw [List.getElem?_set_ne c] at h ⊢
      exact l.own j xs h
  inj := fun j k xs ys p h1 h2 h3 h4 => by
    have nj : ∀ {j : Nat} {xs : List D}, (r.set i (.val d))[j]? = some (.own xs) → i ≠ j := fun {j xs} h c => by
      subst c
      have hl : i < r.length := by
        have := (List.getElem?_eq_some_iff.mp h).1
        rw [List.length_set] at this
        exact this
      rw [List.getElem?_set_self hl] at h
      cases h
    have n1 := nj h1
    have n2 := nj h2
    rw [List.getElem?_set_ne n1] at h1 h3
    rw [List.getElem?_set_ne n2] at h2 h4
    exact l.inj j k xs ys p h1 h2 h3 h4
/-- names, tuples of names: what a store to them does -/
def tTg (K : PySem.W.Frag) (t : Tg) : TG := fun v σ H Q => ∃ o st r d r', Wd K o H st ∧ LocOk K o σ H r ∧ Rep K o v d ∧ bindT t d r = some r' ∧ ∀ σ', LocOk K o σ' H r' → (∀ i, i ∉ slotsT t → σ'[i]? = σ[i]?) → Q σ' H
def tTgs (K : PySem.W.Frag) (t : List Tg) : TGs := fun v σ H Q => ∃ o st r d r', Wd K o H st ∧ LocOk K o σ H r ∧ Reps K o v d ∧ bindTs t d r = some r' ∧ ∀ σ', LocOk K o σ' H r' → (∀ i, i ∉ slotsTs t → σ'[i]? = σ[i]?) → Q σ' H
variable {X : Cx}
theorem pg_by {e : Expr} {t t' : TG} (h : PG X e t) (i : ∀ v s H Q, t' v s H Q → t v s H Q) : PG X e t' := ⟨fun pins s σ H v u Q I r q => h.run pins s σ H v u Q I r (i _ _ _ _ q)⟩
theorem pgs_by {e : List Expr} {t t' : TGs} (h : PGs X e t) (i : ∀ v s H Q, t' v s H Q → t v s H Q) : PGs X e t' := ⟨fun pins s σ H v u Q I r q => h.run pins s σ H v u Q I r (i _ _ _ _ q)⟩
theorem h_gname {i : Nat} {x : Str} {pos : Pos} (hN : X.N.Nodup) (hi : X.N[i]? = some x) (hx : Loc X.env.scope x) (hf : X.fn x = true ∨ X.env.scope.names.lookup x = some .local) : PG X (.Name x pos) (tTg X.K (.nm i)) :=
  pg_by (pg_name hN hi hx hf) fun v s H Q ⟨o, st, r, d, r', w, l, q, e, h⟩ => by
    simp only [bindT, Option.some.injEq] at e
    subst e
    exact h _ (l.put i q) fun j hj => by
      simp only [slotsT, List.mem_singleton] at hj
      rw [List.getElem?_set_ne (fun z => hj z.symm)]
theorem h_gnil : PGs X [] (tTgs X.K []) := pgs_by pgs_nil fun v s H Q ⟨o, st, r, d, r', w, l, q, e, h⟩ => by
  cases q with
  | nil =>
    simp only [bindTs, Option.some.injEq] at e
    subst e
    exact ⟨rfl, h s l fun _ _ => rfl⟩
  | cons _ _ => simp [bindTs] at e
theorem h_gcons {e : Expr} {es : List Expr} {t : Tg} {ts : List Tg} (h1 : PG X e (tTg X.K t)) (h2 : PGs X es (tTgs X.K ts)) (hs : (assignEach (e :: es) X.env) = (false, assign e X.env) :: assignEach es X.env) : PGs X (e :: es) (tTgs X.K (t :: ts)) :=
  pgs_by (pgs_cons h1 h2 (by rw [hs]; rfl)) fun v s H Q ⟨o, st, r, d, r', w, l, q, e, h⟩ => by
    cases q with
    | nil => simp [bindTs] at e
    | cons a b =>
      simp only [bindTs] at e
      split at e
      · rename_i r1 e1
        refine ⟨_, _, rfl, o, st, r, _, r1, w, l, a, e1, fun σ1 l1 k1 => ?_⟩
        refine ⟨o, st, r1, _, r', w, l1, b, e, fun σ2 l2 k2 => h σ2 l2 fun i hi => ?_⟩
        simp only [slotsTs, List.mem_append, not_or] at hi
        rw [k2 i hi.2, k1 i hi.1]
      · cases e
theorem h_gtup {es : List Expr} {k : Nat} {pos : Pos} {ts : List Tg} (hc : X.calm = true) (h : PGs X es (tTgs X.K ts)) (hn : (assignEach es X.env).length = ts.length) (hst : (assignEach es X.env).findIdx? (·.1) = none) : PG X (.Tuple es k pos) (tTg X.K (.tp ts)) :=
  pg_by (pg_tup hc h hn hst) fun v s H Q ⟨o, st, r, d, r', w, l, q, e, h⟩ => by
    cases d with
    | tup ds =>
      simp only [bindT] at e
      cases q with
      | tup a b =>
        have lens : ∀ (ts : List Tg) (ds : List D) (r : REnv), bindTs ts ds r = some r' → ds.length = ts.length := by
          intro ts
          induction ts with
          | nil =>
            intro ds r e
            cases ds with
            | nil => rfl
            | cons _ _ => simp [bindTs] at e
          | cons t ts ih =>
            intro ds r e
            cases ds with
            | nil => simp [bindTs] at e
            | cons d ds =>
              simp only [bindTs] at e
              split at e
              · rw [List.length_cons, List.length_cons, ih _ _ e]
              · cases e
        exact ⟨_, _, rfl, sqT_up w a, by rw [b.len]; exact lens _ _ _ e, o, st, r, ds, r', w, l, b, e, fun σ' l' k' => h σ' l' fun i hi => k' i (by simpa [slotsT] using hi)⟩
    | _ => simp [bindT] at e
/-! ### walks -/
def Walks (K : PySem.W.Frag) (J : It) (o0 : Wo) (xs : List D) : Prop := ∀ (o : Wo) (H : Hp) (st : Store) (i : Nat), Sub o0 o → Wd K o H st →
  (∀ d, xs[i]? = some d → J.go i H ∧ ∀ v H', J.yld i H v H' → ∃ o', Wd K o' H' st ∧ Ext o H o' H' ∧ Rep K o' v d) ∧ (i = xs.length → J.stop i H)
abbrev OutI (K : PySem.W.Frag) (E : XK) (o : Wo) (H : Hp) (r : Res (List D)) (R : It → Hp → Prop) : Prop := OutR (fun xs st' => ∀ J o' H', Wd K o' H' st' → Ext o H o' H' → Walks K J o' xs → R J H') (OutX K E o H) r
def tDI (K : PySem.W.Frag) (E : XK) (f : REnv → Store → Res (List D)) : TI := fun σ H R => ∃ o r st, Wd K o H st ∧ LocOk K o σ H r ∧ OutI K E o H (f r st) R
abbrev HI (X : Cx) (C : FEnv) (tg e : Expr) (s : SA) : Prop := PI X tg e (tDI X.K (wx X) (s C))
theorem pi_by {tg e : Expr} {t t' : TI} (h : PI X tg e t) (i : ∀ s H Q, t' s H Q → t s H Q) : PI X tg e t' := ⟨fun pins s σ H R I q => h.run pins s σ H R I (i _ _ _ q)⟩
theorem walks_lst {a : Addr} {vs : List V} {ds : List D} {o : Wo} (h : o.F a = some (.lst vs)) (r : Reps K o vs ds) : Walks K (Itl K a) o ds := fun o1 H st i s w => by
  have q : SqL K H a vs := SqL.of (w.sub _ _ (s.f _ _ h))
  refine ⟨fun d e => ?_, fun e => ⟨vs, q, by rw [r.len]; exact Nat.le_of_eq e.symm⟩⟩
  obtain ⟨v, e1, e2⟩ := r.get e
  refine ⟨⟨vs, v, q, e1⟩, fun v' H' y => ?_⟩
  obtain ⟨rfl, y⟩ := y
  have := y vs q
  rw [e1] at this
  cases this
  exact ⟨o1, w, .refl o1 _, e2.mono s⟩
theorem walks_scr {a : Addr} {ns : List Int} {o : Wo} (h : SqL K o.F a (ns.map V.int)) : Walks K (Itl K a) o (ns.map .int) := fun o1 H st i s w => by
  have q : SqL K H a (ns.map V.int) := sqL_up w (sqL_sub s h)
  refine ⟨fun d e => ?_, fun e => ⟨_, q, by rw [List.length_map] at e ⊢; exact Nat.le_of_eq e.symm⟩⟩
  obtain ⟨v, e1, e2⟩ := (Reps.ints (K := K) (o := o1) ns).get e
  refine ⟨⟨_, v, q, e1⟩, fun v' H' y => ?_⟩
  obtain ⟨rfl, y⟩ := y
  have := y _ q
  rw [e1] at this
  cases this
  exact ⟨o1, w, .refl o1 _, e2⟩
theorem walks_tup {a : Addr} {vs : List V} {ds : List D} {o : Wo} (h : SqT K o.F a vs) (r : Reps K o vs ds) : Walks K (Itt K a) o ds := fun o1 H st i s w => by
  have q : SqT K H a vs := sqT_up w (sqT_sub s h)
  refine ⟨fun d e => ?_, fun e => ⟨vs, q, by rw [r.len]; exact Nat.le_of_eq e.symm⟩⟩
  obtain ⟨v, e1, e2⟩ := r.get e
  refine ⟨⟨vs, v, q, e1⟩, fun v' H' y => ?_⟩
  obtain ⟨rfl, y⟩ := y
  have := y vs q
  rw [e1] at this
  cases this
  exact ⟨o1, w, .refl o1 _, e2.mono s⟩
theorem walks_rng (lo : Int) (n : Nat) (o : Wo) : Walks K (Itr lo n) o ((List.range n).map fun i => .int (lo + (i : Nat))) := fun o1 H st i s w => by
  refine ⟨fun d e => ?_, fun e => by
    show n ≤ i
    rw [List.length_map, List.length_range] at e
    omega⟩
  rw [List.getElem?_map] at e
  obtain ⟨j, e1, e2⟩ := Option.map_eq_some_iff.mp e
  obtain ⟨h1, h2⟩ := List.getElem?_eq_some_iff.mp e1
  rw [List.length_range] at h1
  rw [List.getElem_range] at h2
  subst h2
  refine ⟨h1, fun v H' y => ?_⟩
  obtain ⟨rfl, rfl⟩ := y
  subst e2
  exact ⟨o1, w, .refl o1 _, .int _⟩
theorem walks_str (x : Str) (o : Wo) : Walks K (Its x) o (x.cps.toList.map fun c => .str ⟨#[c]⟩) := fun o1 H st i s w => by
  refine ⟨fun d e => ?_, fun e => by
    show x.cps.size ≤ i
    rw [e, List.length_map]
    simp⟩
  rw [List.getElem?_map] at e
  obtain ⟨j, e1, e2⟩ := Option.map_eq_some_iff.mp e
  rw [Array.getElem?_toList] at e1
  refine ⟨(Array.getElem?_eq_some_iff.mp e1).1, fun v H' y => ?_⟩
  obtain ⟨rfl, c, e3, rfl⟩ := y
  rw [e1] at e3
  cases e3
  subst e2
  exact ⟨o1, w, .refl o1 _, .str _⟩
theorem pi_or {tg e : Expr} {t t' : TI} (h : PI X tg e t) (k : PI X tg e t') : PI X tg e (fun s H R => t s H R ∨ t' s H R) := ⟨fun pins s σ H R I q => by
  rcases q with q | q
  · exact h.run pins s σ H R I q
  · exact k.run pins s σ H R I q⟩
variable {C : FEnv} {tg e : Expr} {sa : SE} {ss : SA} {pos p : Pos}
theorem h_iter (ha : HE X C e sa) : HI X C tg e (eIter sa) := pi_by (pi_or (pi_or (pi_list ha) (pi_str ha)) (pi_tup ha)) fun s H R ⟨o, r, st, w, l, h⟩ => by
  unfold eIter at h
  cases e1 : sa C r st with
  | exc _ _ =>
    rw [e1] at h
    refine .inr ⟨o, r, st, w, l, ?_⟩
    rw [e1]
    exact h
  | bad => rw [e1] at h; exact h.elim
  | ok d st1 =>
    rw [e1] at h
    cases d with
    | tup ds =>
      refine .inr ⟨o, r, st, w, l, ?_⟩
      rw [e1]
      intro v o1 H1 w1 x1 r1
      cases r1 with
      | tup a b => exact ⟨_, rfl, ⟨_, sqT_up w1 a⟩, h _ o1 H1 w1 x1 (walks_tup a b)⟩
    | lst ds =>
      refine .inl (.inl ⟨o, r, st, w, l, ?_⟩)
      rw [e1]
      intro v o1 H1 w1 x1 r1
      cases r1 with
      | lst a b => exact ⟨_, rfl, ⟨_, SqL.of (w1.sub _ _ a)⟩, h _ o1 H1 w1 x1 (walks_lst a b)⟩
    | scr ns =>
      refine .inl (.inl ⟨o, r, st, w, l, ?_⟩)
      rw [e1]
      intro v o1 H1 w1 x1 r1
      cases r1 with
      | scr a => exact ⟨_, rfl, ⟨_, sqL_up w1 a⟩, h _ o1 H1 w1 x1 (walks_scr a)⟩
    | str x =>
      refine .inl (.inr ⟨o, r, st, w, l, ?_⟩)
      rw [e1]
      intro v o1 H1 w1 x1 r1
      cases r1
      exact ⟨_, rfl, h _ o1 H1 w1 x1 (walks_str x o1)⟩
    | _ => exact h.elim
theorem h_rng1 {a : Expr} (hg : Gl X "range") (hm : X.mg "range" = none) (ha : HA X C [a] ss) (hl : Long 1 ss) (hs : starEach [a] X.env = [(false, eval a X.env)]) : HI X C tg (.Call (.Name "range" p) [a] [] pos) (eRng ss) :=
  pi_by (pi_range1 hg hm ha hs) fun s H R ⟨o, r, st, w, l, h⟩ => by
    unfold eRng at h
    cases e1 : ss C r st with
    | exc _ _ =>
      rw [e1] at h
      refine ⟨o, r, st, w, l, ?_⟩
      rw [e1]
      exact h
    | bad => rw [e1] at h; exact h.elim
    | ok ds st1 =>
      rw [e1] at h
      refine ⟨o, r, st, w, l, ?_⟩
      rw [e1]
      intro vs o1 H1 w1 x1 r1
      have ll := hl _ _ _ _ _ e1
      match ds, ll with
      | [d], _ =>
        obtain ⟨v, rfl, rv⟩ := reps1 r1
        cases d with
        | int j =>
          cases rv
          have h : OutI X.K (wx X) o H (lift (dRng [.int j]) st1) R := h
          unfold dRng at h
          by_cases c : -(2 ^ 62) ≤ j ∧ j < 2 ^ 62
          · simp only [c, and_self, if_true, lift_some] at h
            refine ⟨j, rfl, c.1, c.2, h _ o1 H1 w1 x1 ?_⟩
            have := walks_rng (K := X.K) 0 j.toNat o1
            rw [show rng 0 j = (List.range j.toNat).map fun i => .int (0 + (i : Nat)) by unfold rng; rw [Int.sub_zero]]
            exact this
          · simp only [c, if_false] at h
            exact h.elim
        | _ => exact h.elim
theorem h_rng2 {a b : Expr} (hg : Gl X "range") (hm : X.mg "range" = none) (ha : HA X C [a, b] ss) (hl : Long 2 ss) (hs : starEach [a, b] X.env = [(false, eval a X.env), (false, eval b X.env)]) (hs2 : starEach [b] X.env = [(false, eval b X.env)]) :
    HI X C tg (.Call (.Name "range" p) [a, b] [] pos) (eRng ss) :=
  pi_by (pi_range2 hg hm ha hs hs2) fun s H R ⟨o, r, st, w, l, h⟩ => by
    unfold eRng at h
    cases e1 : ss C r st with
    | exc _ _ =>
      rw [e1] at h
      refine ⟨o, r, st, w, l, ?_⟩
      rw [e1]
      exact h
    | bad => rw [e1] at h; exact h.elim
    | ok ds st1 =>
      rw [e1] at h
      refine ⟨o, r, st, w, l, ?_⟩
      rw [e1]
      intro vs o1 H1 w1 x1 r1
      have ll := hl _ _ _ _ _ e1
      match ds, ll with
      | [d, e], _ =>
        obtain ⟨v, u, rfl, rv, ru⟩ := reps2 r1
        cases d with
        | int i =>
          cases e with
          | int j =>
            cases rv; cases ru
            have h : OutI X.K (wx X) o H (lift (dRng [.int i, .int j]) st1) R := h
            unfold dRng at h
            by_cases c : -(2 ^ 62) ≤ i ∧ i < 2 ^ 62 ∧ -(2 ^ 62) ≤ j ∧ j < 2 ^ 62
            · simp only [c, and_self, if_true, lift_some] at h
              exact ⟨i, j, rfl, c, h _ o1 H1 w1 x1 (walks_rng i _ o1)⟩
            · simp only [c, if_false] at h
              exact h.elim
          | _ => exact h.elim
        | _ => exact h.elim
/-! ### comprehensions -/
theorem wipe_set_comm : ∀ (vs : List Nat) (s s' : L2.St), s.length = s'.length → (∀ i, i ∉ vs → s[i]? = s'[i]?) → wipe s vs = wipe s' vs := by
  intro vs s s' hl h
  apply List.ext_getElem?
  intro i
  have key : ∀ (vs : List Nat) (s : L2.St), i ∈ vs → i < s.length → (wipe s vs)[i]? = some none := by
    intro vs
    induction vs with
    | nil => intro s hm; cases hm
    | cons v vs ih =>
      intro s hm hi
      unfold wipe
      by_cases c : v = i
      · subst c
        rw [List.getElem?_set_self (by rw [wipe_length]; exact hi)]
      · rw [List.getElem?_set_ne c]
        exact ih s ((List.mem_cons.mp hm).resolve_left fun z => c z.symm) hi
  by_cases c : i ∈ vs
  · by_cases hi : i < s.length
    · rw [key vs s c hi, key vs s' c (by rw [← hl]; exact hi)]
    · rw [List.getElem?_eq_none (by rw [wipe_length]; omega), List.getElem?_eq_none (by rw [wipe_length]; omega)]
  · rw [wipe_out c, wipe_out c]
    exact h i c
theorem wipeR_get : ∀ (vs : List Nat) (r : REnv) (i : Nat) (q : Slot), (wipeR r vs)[i]? = some q → q ≠ .un → r[i]? = some q ∧ i ∉ vs
  | [], r, i, q, h, _ => ⟨h, by simp⟩
  | v :: vs, r, i, q, h, n => by
    unfold wipeR at h
    by_cases c : v = i
    · subst c
      by_cases hl : v < (wipeR r vs).length
      · rw [List.getElem?_set_self hl] at h
        cases h
        exact absurd rfl n
      · rw [List.getElem?_eq_none (by rw [List.length_set]; omega)] at h
        cases h
    · rw [List.getElem?_set_ne c] at h
      obtain ⟨a, b⟩ := wipeR_get vs r i q h n
      exact ⟨a, by simp only [List.mem_cons, not_or]; exact ⟨fun z => c z.symm, b⟩⟩
theorem wipeR_length : ∀ (vs : List Nat) (r : REnv), (wipeR r vs).length = r.length
  | [], _ => rfl
  | v :: vs, r => by
    show ((wipeR r vs).set v .un).length = _
    rw [List.length_set, wipeR_length]
theorem LocOk.wipe {s : L2.St} {r : REnv} (l : LocOk K o s H r) (vs : List Nat) : LocOk K o (L2.wipe s vs) H (wipeR r vs) where
  len := by rw [wipe_length, wipeR_length]; exact l.len
  val := fun i d h => by
    obtain ⟨a, b⟩ := wipeR_get vs r i _ h (by simp)
    rw [wipe_out b]
    exact l.val i d a
  own := fun i d h => by
    obtain ⟨a, b⟩ := wipeR_get vs r i _ h (by simp)
    rw [wipe_out b]
    exact l.own i d a
  inj := fun i j xs ys p h1 h2 h3 h4 => by
    obtain ⟨a, b⟩ := wipeR_get vs r i _ h1 (by simp)
    obtain ⟨a', b'⟩ := wipeR_get vs r j _ h2 (by simp)
    rw [wipe_out b] at h3
    rw [wipe_out b'] at h4
    exact l.inj i j xs ys p a a' h3 h4
mutual
theorem bindT_len : ∀ (t : Tg) (d : D) (r r' : REnv), bindT t d r = some r' → r'.length = r.length
  | .nm i, d, r, r', h => by
    simp only [bindT, Option.some.injEq] at h
    rw [← h, List.length_set]
  | .tp ts, .tup ds, r, r', h => bindTs_len ts ds r r' (by simpa only [bindT] using h)
  | .tp _, .non, _, _, h => by simp [bindT] at h
  | .tp _, .bl _, _, _, h => by simp [bindT] at h
  | .tp _, .int _, _, _, h => by simp [bindT] at h
  | .tp _, .str _, _, _, h => by simp [bindT] at h
  | .tp _, .lst _, _, _, h => by simp [bindT] at h
  | .tp _, .emp, _, _, h => by simp [bindT] at h
  | .tp _, .scr _, _, _, h => by simp [bindT] at h
  | .tp _, .cell _, _, _, h => by simp [bindT] at h
  | .tp _, .ty _, _, _, h => by simp [bindT] at h
  | .tp _, .obj _ _ _, _, _, h => by simp [bindT] at h
  | .tp _, .cls _, _, _, h => by simp [bindT] at h
theorem bindTs_len : ∀ (t : List Tg) (d : List D) (r r' : REnv), bindTs t d r = some r' → r'.length = r.length
  | [], [], r, r', h => by
    simp only [bindTs, Option.some.injEq] at h
    rw [h]
  | t :: ts, d :: ds, r, r', h => by
    simp only [bindTs] at h
    split at h
    · rename_i r1 e1
      rw [bindTs_len ts ds r1 r' h, bindT_len t d r r1 e1]
    · cases h
  | [], _ :: _, _, _, h => by simp [bindTs] at h
  | _ :: _, [], _, _, h => by simp [bindTs] at h
end
theorem wipe_wipe (s : L2.St) (vs : List Nat) : L2.wipe (L2.wipe s vs) vs = L2.wipe s vs :=
  wipe_set_comm vs _ _ (wipe_length s vs) fun i hi => wipe_out hi
/-- nothing is raised -/
def X0 : XK := fun _ _ _ => False
theorem rd_comp {E : XK} {vs : List Nat} {it : SA} {g : Tg} {t : ST} {el : SE} (hsub : ∀ i ∈ slotsT g, i ∈ vs) {s : L2.St} {H : Hp} {Q : VK} (h : tD K E (eComp vs it g t el C) s H Q) :
    tLc (tDI K E (it C)) (tTg K g) (tDB K X0 (t C)) (tD K X0 (el C)) vs s H Q := by
  obtain ⟨o, r, st, w, l, h⟩ := h
  refine ⟨o, r, st, w, l, h.b fun xs st1 e1 h J o1 H1 w1 x1 wk D0 nD => ?_⟩
  split at h
  rotate_left
  · exact h.elim
  rename_i hz
  -- what holds between two turns
  refine ⟨fun i m H2 => m = xs.length - i ∧ i ≤ xs.length ∧ ∃ o2 st2 acc av, Wd K o2 H2 st2 ∧ Sub o1 o2 ∧ Ext o1 H1 o2 H2 ∧ o2.F D0 = none ∧ (∀ j, j < o2.n → D0 ≠ o2.m j) ∧ H2 D0 = some (.lst av) ∧ Reps K o2 av acc ∧ acc.length ≤ i ∧
      OutD K E o H ((compGo g t el C (wipeR r vs) (xs.drop i) acc st2).bind fun ys st => .ok (.lst ys) st) Q, ⟨xs.length, by simp, Nat.zero_le _, o1, st1, [], [], w1.grow (fun a u q => by rw [upd_ne (ne_of_none q nD)]; exact q), .refl o1, Ext.grow (fun a u q => by rw [upd_ne (ne_of_none q nD)]; exact q), w1.fnone nD, fun j hj z => ?_, upd_same, .nil, Nat.le_refl _, ?_⟩, ?_⟩
  · obtain ⟨_, q⟩ := w1.celS hj
    rw [← z, nD] at q
    cases q
  · rw [List.drop_zero]
    exact h
  rintro i m H2 ⟨rfl, hi, o2, st2, acc, av, w2, s2, x2, nF, nc, hD, ra, la, h⟩
  by_cases hlt : i < xs.length
  · right
    have hx : xs[i]? = some xs[i] := List.getElem?_eq_getElem hlt
    obtain ⟨gg, yy⟩ := (wk o2 H2 st2 i s2 w2).1 xs[i] hx
    refine ⟨gg, _, fun H' q => ⟨xs.length - (i + 1), by omega, rfl, hlt, q⟩, fun x H' y => ?_⟩
    obtain ⟨o3, w3, x3, r3⟩ := yy x H' y
    have x13 := x2.trans w2 x3
    rw [List.drop_eq_getElem_cons hlt] at h
    unfold compGo at h
    cases eb : bindT g xs[i] (wipeR r vs) with
    | none => rw [eb] at h; exact h.elim
    | some r2 =>
      rw [eb] at h
      simp only [lift_some, bind_ok] at h
      have l3 := ((l.ext (x1.trans w1 x13)).wipe vs)
      refine ⟨o3, st2, _, _, r2, w3, l3, r3, eb, fun σ2 l2 k2 => ⟨?_, ?_⟩⟩
      · rw [wipe_set_comm vs σ2 (L2.wipe s vs) (by rw [l2.len, bindT_len _ _ _ _ eb, ← l3.len]) fun j hj => k2 j fun z => hj (hsub j z), wipe_wipe]
      -- the test
      have hD3 : H' D0 = some (.lst av) := x3.keep D0 _ hD nc
      cases et : t C r2 st2 with
      | exc _ _ =>
        rw [et] at h
        exact (show False from h).elim
      | bad => rw [et] at h; exact h.elim
      | ok k st3 =>
        rw [et] at h
        refine ⟨o3, r2, st2, w3, l2, ?_⟩
        rw [et]
        intro o4 H4 w4 x4
        have nF3 : o3.F D0 = none := by
          cases z : o3.F D0 with
          | none => rfl
          | some u => rw [x3.new D0 u z nF] at hD; cases hD
        have nc3 : ∀ j, j < o3.n → D0 ≠ o3.m j := fun j hj z => by
          by_cases c : j < o2.n
          · exact nc j c (by rw [z, x3.sub.m j c])
          · have := x3.cel j (Nat.not_lt.mp c) hj
            rw [← z, hD] at this
            cases this
        have hD4 : H4 D0 = some (.lst av) := x4.keep D0 _ hD3 nc3
        have nF4 : o4.F D0 = none := by
          cases z : o4.F D0 with
          | none => rfl
          | some u => rw [x4.new D0 u z nF3] at hD3; cases hD3
        have nc4 : ∀ j, j < o4.n → D0 ≠ o4.m j := fun j hj z => by
          by_cases c : j < o3.n
          · exact nc3 j c (by rw [z, x4.sub.m j c])
          · have := x4.cel j (Nat.not_lt.mp c) hj
            rw [← z, hD3] at this
            cases this
        have x14 := x13.trans w3 x4
        have s4 : Sub o1 o4 := x14.sub
        cases k with
        | false =>
          refine iteF ⟨o4, st3, acc, av, w4, s4, x14, nF4, nc4, hD4, (ra.mono x3.sub).mono x4.sub, by omega, ?_⟩
          exact h
        | true =>
          refine iteT ?_
          simp only [noX_ok, bind_ok, if_true] at h
          cases ee : el C r2 st3 with
          | exc _ _ =>
            rw [ee] at h
            exact (show False from h).elim
          | bad => rw [ee] at h; exact h.elim
          | ok y st4 =>
            rw [ee] at h
            refine ⟨o4, r2, st3, w4, l2.ext x4, ?_⟩
            rw [ee]
            intro v o5 H5 w5 x5 r5
            have hD5 : H5 D0 = some (.lst av) := x5.keep D0 _ hD4 nc4
            have nF5 : o5.F D0 = none := by
              cases z : o5.F D0 with
              | none => rfl
              | some u => rw [x5.new D0 u z nF4] at hD4; cases hD4
            have nc5 : ∀ j, j < o5.n → D0 ≠ o5.m j := fun j hj z => by
              by_cases c : j < o4.n
              · exact nc4 j c (by rw [z, x5.sub.m j c])
              · have := x5.cel j (Nat.not_lt.mp c) hj
                rw [← z, hD4] at this
                cases this
            have ra5 := ((ra.mono x3.sub).mono x4.sub).mono x5.sub
            refine ⟨av, hD5, by rw [ra5.len]; omega, o5, st4, acc ++ [y], av ++ [v], ?_, (x14.trans w4 x5).sub, ?_, nF5, nc5, upd_same, ra5.app (.cons r5 .nil), by rw [List.length_append]; simp; omega, h⟩
            · exact ⟨w5.n, fun a u q => by rw [upd_ne (ne_of_none q nF5)]; exact w5.sub a u q, fun j xs q => (w5.cel j xs q).move (.refl _) (fun z => z) fun u z => by rw [upd_ne (nc5 j (by rw [w5.n]; exact (List.getElem?_eq_some_iff.mp q).1)).symm]; exact z, w5.inj⟩
            · have x15 := x14.trans w4 x5
              exact ⟨x15.sub, x15.new, x15.cel, fun a u q n => by rw [upd_ne (ne_of_none q nD)]; exact x15.keep a u q n⟩
  · left
    have e : i = xs.length := by omega
    refine ⟨(wk o2 H2 st2 i s2 w2).2 (by omega), ?_⟩
    rw [e, List.drop_length] at h
    simp only [compGo, bind_ok] at h
    -- the list is frozen
    have s6 : Sub o2 (o2.put D0 (.lst av)) := ⟨fun a u q => by
      show upd o2.F D0 _ a = some u
      rw [upd_ne (ne_of_none q nF)]
      exact q, fun _ _ => rfl, Nat.le_refl _⟩
    have w6 : Wd K (o2.put D0 (.lst av)) H2 st2 := ⟨w2.n, fun a u q => by
      by_cases c : a = D0
      · subst c
        have q : upd o2.F a (.lst av) a = some u := q
        rw [upd_same] at q
        rw [hD]
        exact q
      · have q : upd o2.F D0 (.lst av) a = some u := q
        rw [upd_ne c] at q
        exact w2.sub a u q, fun j xs q => by
      have ne : o2.m j ≠ D0 := (nc j (by rw [w2.n]; exact (List.getElem?_eq_some_iff.mp q).1)).symm
      refine (w2.cel j xs q).move s6 (fun z => ?_) fun _ z => z
      show upd o2.F D0 _ (o2.m j) = none
      rw [upd_ne ne]
      exact z, w2.inj⟩
    refine h _ _ H2 w6 (x1.trans w1 ⟨x2.sub.trans s6, fun a u q n => ?_, x2.cel, x2.keep⟩) (.lst upd_same (ra.mono s6))
    by_cases c : a = D0
    · rw [c]
      exact nD
    · have q : upd o2.F D0 (.lst av) a = some u := q
      rw [upd_ne c] at q
      exact x2.new a u q n
end
end DS
namespace DS
open PySem L2
/-! ## statements -/
/-- a def runs: it was entered at o0, H0 -/
structure SOk (K : PySem.W.Frag) (o0 : Wo) (H0 : Hp) (o : Wo) (s : L2.St) (H : Hp) (r : REnv) (st : Store) : Prop where
  wd : Wd K o H st
  ext : Ext o0 H0 o H
  loc : LocOk K o s H r
  fresh : ∀ (i : Nat) xs p, r[i]? = some (Slot.own xs) → s[i]? = some (some (V.ref p)) → H0 p = none
section
variable (K : PySem.W.Frag) (E : XK)
abbrev OutS (o0 : Wo) (H0 : Hp) (o : Wo) (f : Res Fl) (D : Ends) : Prop := OutR (fun fl st => match fl with
  | .nx r => ∀ o' s' H', SOk K o0 H0 o' s' H' r st → Sub o o' → D.nx s' H'
  | .rt d => ∀ v o' H', Wd K o' H' st → Ext o0 H0 o' H' → Rep K o' v d → D.rt v H'
  | .bk r => ∀ o' s' H', SOk K o0 H0 o' s' H' r st → Sub o o' → D.bk s' H'
  | .ct r => ∀ o' s' H', SOk K o0 H0 o' s' H' r st → Sub o o' → D.ct s' H') (OutX K E o0 H0) f
def tS (f : REnv → Store → Res Fl) : TS := fun D s H => ∃ o0 H0 o r st, SOk K o0 H0 o s H r st ∧ OutS K E o0 H0 o (f r st) D
abbrev OutG (o0 : Wo) (H0 : Hp) (o : Wo) (f : Res REnv) (Q : L2.St → Hp → Prop) : Prop := OutR (fun r st => ∀ o' s' H', SOk K o0 H0 o' s' H' r st → Sub o o' → Q s' H') (OutX K E o0 H0) f
def tG (f : D → REnv → Store → Res REnv) : TG := fun v s H Q => ∃ o0 H0 o r st d, SOk K o0 H0 o s H r st ∧ Rep K o v d ∧ OutG K E o0 H0 o (f d r st) Q
def tGs (f : List D → REnv → Store → Res REnv) : TGs := fun v s H Q => ∃ o0 H0 o r st d, SOk K o0 H0 o s H r st ∧ Reps K o v d ∧ OutG K E o0 H0 o (f d r st) Q
end
section
variable {K : PySem.W.Frag} {E : XK} {o0 o o1 : Wo} {H0 H H1 : Hp} {s : L2.St} {r : REnv} {st st1 : Store}
theorem SOk.ext' (q : SOk K o0 H0 o s H r st) (w : Wd K o1 H1 st1) (e : Ext o H o1 H1) : SOk K o0 H0 o1 s H1 r st1 :=
  ⟨w, q.ext.trans q.wd e, q.loc.ext e, q.fresh⟩
theorem OutS.later {f : Res Fl} {D : Ends} (h : OutS K E o0 H0 o f D) (e : Sub o o1) : OutS K E o0 H0 o1 f D := OutR.mono h (fun a st k => by
    cases a with
    | nx r => exact fun o' s' H' q u => k o' s' H' q (e.trans u)
    | bk r => exact fun o' s' H' q u => k o' s' H' q (e.trans u)
    | ct r => exact fun o' s' H' q u => k o' s' H' q (e.trans u)
    | rt d => exact k) fun _ _ z => z
theorem OutG.later {f : Res REnv} {Q : L2.St → Hp → Prop} (h : OutG K E o0 H0 o f Q) (e : Sub o o1) : OutG K E o0 H0 o1 f Q := OutR.mono h (fun a st k o' s' H' q u => k o' s' H' q (e.trans u)) fun _ _ z => z
/-- what is raised within a def that was entered at o0, H0 -/
theorem SOk.x (q : SOk K o0 H0 o s H r st) (x : D) (st' : Store) (z : OutX K E o0 H0 x st') : OutX K E o H x st' := z.later q.wd q.ext
theorem SOk.put (q : SOk K o0 H0 o s H r st) (i : Nat) {v : V} {d : D} (rd : Rep K o v d) : SOk K o0 H0 o (s.set i (some v)) H (r.set i (.val d)) st :=
  ⟨q.wd, q.ext, q.loc.put i rd, fun j xs p h1 h2 => by
    have ne : i ≠ j := fun c => by
      subst c
      have hl : i < r.length := by
        have := (List.getElem?_eq_some_iff.mp h1).1
        rw [List.length_set] at this
        exact this
      rw [List.getElem?_set_self hl] at h1
      cases h1
    rw [List.getElem?_set_ne ne] at h1 h2
    exact q.fresh j xs p h1 h2⟩
mutual
theorem own_bindT : ∀ (t : Tg) (d : D) (r r' : REnv), bindT t d r = some r' → ∀ (j : Nat) xs, r'[j]? = some (Slot.own xs) → r[j]? = some (.own xs) ∧ j ∉ slotsT t
  | .nm i, d, r, r', h, j, xs, q => by
    simp only [bindT, Option.some.injEq] at h
    subst h
    have ne : i ≠ j := fun c => by
      subst c
      have hl : i < r.length := by
        have := (List.getElem?_eq_some_iff.mp q).1
        rw [List.length_set] at this
        exact this
      rw [List.getElem?_set_self hl] at q
      cases q
    rw [List.getElem?_set_ne ne] at q
    exact ⟨q, by simp only [slotsT, List.mem_singleton]; exact fun z => ne z.symm⟩
  | .tp ts, .tup ds, r, r', h, j, xs, q => by
    obtain ⟨a, b⟩ := own_bindTs ts ds r r' (by simpa only [bindT] using h) j xs q
    exact ⟨a, by simpa only [slotsT] using b⟩
  | .tp _, .non, _, _, h, _, _, _ => by simp [bindT] at h
  | .tp _, .bl _, _, _, h, _, _, _ => by simp [bindT] at h
  | .tp _, .int _, _, _, h, _, _, _ => by simp [bindT] at h
  | .tp _, .str _, _, _, h, _, _, _ => by simp [bindT] at h
  | .tp _, .lst _, _, _, h, _, _, _ => by simp [bindT] at h
  | .tp _, .emp, _, _, h, _, _, _ => by simp [bindT] at h
  | .tp _, .scr _, _, _, h, _, _, _ => by simp [bindT] at h
  | .tp _, .cell _, _, _, h, _, _, _ => by simp [bindT] at h
  | .tp _, .ty _, _, _, h, _, _, _ => by simp [bindT] at h
  | .tp _, .obj _ _ _, _, _, h, _, _, _ => by simp [bindT] at h
  | .tp _, .cls _, _, _, h, _, _, _ => by simp [bindT] at h
theorem own_bindTs : ∀ (t : List Tg) (d : List D) (r r' : REnv), bindTs t d r = some r' → ∀ (j : Nat) xs, r'[j]? = some (Slot.own xs) → r[j]? = some (.own xs) ∧ j ∉ slotsTs t
  | [], [], r, r', h, j, xs, q => by
    simp only [bindTs, Option.some.injEq] at h
    subst h
    exact ⟨q, by simp [slotsTs]⟩
  | t :: ts, d :: ds, r, r', h, j, xs, q => by
    simp only [bindTs] at h
    split at h
    · rename_i r1 e1
      obtain ⟨a, b⟩ := own_bindTs ts ds r1 r' h j xs q
      obtain ⟨a', b'⟩ := own_bindT t d r r1 e1 j xs a
      exact ⟨a', by simp only [slotsTs, List.mem_append, not_or]; exact ⟨b', b⟩⟩
    · cases h
  | [], _ :: _, _, _, h, _, _, _ => by simp [bindTs] at h
  | _ :: _, [], _, _, h, _, _, _ => by simp [bindTs] at h
end
variable {X : Cx} {C : FEnv} {e : Expr} {sa : SE} {ta : ST} {ss : SA} {pos : Pos}
abbrev HS (X : Cx) (C : FEnv) (e : Stmt) (s : SS) : Prop := PS X e (tS X.K (wx X) (s C))
abbrev HSs (X : Cx) (C : FEnv) (e : List Stmt) (s : SS) : Prop := PSs X e (tS X.K (wx X) (s C))
abbrev HG (X : Cx) (C : FEnv) (e : Expr) (s : SG) : Prop := PG X e (tG X.K (wx X) (s C))
abbrev HGs (X : Cx) (C : FEnv) (e : List Expr) (s : List SG) : Prop := PGs X e (tGs X.K (wx X) (gMany s C))
theorem bind_bind' {α β γ : Type} (x : Res α) (f : α → Store → Res β) (g : β → Store → Res γ) : (x.bind f).bind g = x.bind fun a st => (f a st).bind g := by cases x <;> rfl
/-- what raises nothing -/
theorem bindOk {α β : Type} {P : β → Store → Prop} {Z : D → Store → Prop} {x : Res α} {f : α → Store → Res β} (h : OutR P Z (x.bind f)) (n : ∀ y st, x ≠ .exc y st) : ∃ a st1, x = .ok a st1 ∧ OutR P Z (f a st1) := by
  cases x with
  | ok a s => exact ⟨a, s, rfl, h⟩
  | exc y s => exact absurd rfl (n y s)
  | bad => exact h.elim
/-! ### targets of an assignment -/
theorem h_tg {t : Tg} (h : PG X e (tTg X.K t)) : HG X C e (gTg t) := pg_by h fun v s H Q ⟨o0, H0, o, r, st, d, q, rv, h⟩ => by
  unfold gTg at h
  cases eb : bindT t d r with
  | none => rw [eb] at h; exact h.elim
  | some r' =>
    rw [eb] at h
    refine ⟨o, st, r, d, r', q.wd, q.loc, rv, eb, fun σ' l' k' => h o σ' H ⟨q.wd, q.ext, l', fun j xs p h1 h2 => ?_⟩ (.refl o)⟩
    obtain ⟨a, b⟩ := own_bindT t d r r' eb j xs h1
    rw [k' j b] at h2
    exact q.fresh j xs p a h2
theorem h_gsnil : HGs X C [] [] := pgs_by pgs_nil fun v s H Q ⟨o0, H0, o, r, st, d, q, rv, h⟩ => by
  cases rv with
  | nil => exact ⟨rfl, h o s H q (.refl o)⟩
  | cons _ _ => exact h.elim
theorem h_gscons {es : List Expr} {g : SG} {gs : List SG} (h1 : HG X C e g) (h2 : HGs X C es gs) (hs : (assignEach (e :: es) X.env) = (false, assign e X.env) :: assignEach es X.env) : HGs X C (e :: es) (g :: gs) :=
  pgs_by (pgs_cons h1 h2 (by rw [hs]; rfl)) fun v s H Q ⟨o0, H0, o, r, st, d, q, rv, h⟩ => by
    cases rv with
    | nil => exact h.elim
    | @cons v0 d0 vs0 ds0 a b =>
      unfold gMany at h
      refine ⟨_, _, rfl, o0, H0, o, r, st, _, q, a, ?_⟩
      cases eg : g C d0 r st with
      | exc _ _ => rw [eg] at h; exact h
      | bad => rw [eg] at h; exact h.elim
      | ok r1 st1 =>
        rw [eg] at h
        exact fun o1 s1 H1 q1 u1 => ⟨o0, H0, o1, r1, st1, _, q1, b.mono u1, OutG.later h u1⟩
theorem gmany_len : ∀ (gs : List SG) (ds : List D) (r : REnv) (st : Store) (r' : REnv) (st' : Store), gMany gs C ds r st = .ok r' st' → ds.length = gs.length
  | [], [], _, _, _, _, _ => rfl
  | [], _ :: _, _, _, _, _, h => by simp [gMany] at h
  | _ :: _, [], _, _, _, _, h => by simp [gMany] at h
  | g :: gs, d :: ds, r, st, r', st', h => by
    simp only [gMany] at h
    cases eg : g C d r st with
    | exc _ _ => rw [eg] at h; cases h
    | bad => rw [eg] at h; cases h
    | ok r1 st1 =>
      rw [eg] at h
      rw [List.length_cons, List.length_cons, gmany_len gs ds r1 st1 r' st' h]
theorem h_gstup {es : List Expr} {k : Nat} {gs : List SG} (hc : X.calm = true) (h : HGs X C es gs) (hn : (assignEach es X.env).length = gs.length) (hst : (assignEach es X.env).findIdx? (·.1) = none) : HG X C (.Tuple es k pos) (gTp gs) :=
  pg_by (pg_tup hc h hn hst) fun v s H Q ⟨o0, H0, o, r, st, d, q, rv, h⟩ => by
    cases d with
    | tup ds =>
      have h : OutG X.K (wx X) o0 H0 o (if ds.length = gs.length then gMany gs C ds r st else .bad) Q := h
      cases rv with
      | tup a b =>
        split at h
        · rename_i el
          exact ⟨_, _, rfl, sqT_up q.wd a, by rw [b.len]; exact el, o0, H0, o, r, st, ds, q, b, h⟩
        · exact h.elim
    | _ => exact h.elim
theorem h_gcell {a b : Expr} {sb : SE} (ha : HE X C a sa) (hb : HE X C b sb)
    (has : ∀ v, assign (.Subscript a b pos) X.env v = (do
      let ov ← holding [v] (eval a X.env)
      let iv ← holding [v, ov] (eval b X.env)
      standAt pos
      holding [v, ov, iv] (setItem ov iv v)
      release [v, ov, iv] [])) : HG X C (.Subscript a b pos) (gCell sa sb) :=
  pg_by (pg_sub ha hb set_list has) fun v s H Q ⟨o0, H0, o, r, st, d, q, rv, h⟩ => by
    refine ⟨o, r, st, q.wd, q.loc, OutR.bx h q.x fun x st1 e1 h vx o1 H1 w1 x1 r1 => ?_⟩
    have q1 := q.ext' w1 x1
    refine ⟨o1, r, st1, w1, q1.loc, OutR.bx h q1.x fun k st2 e2 h vk o2 H2 w2 x2 r2 => ?_⟩
    · have q2 := q1.ext' w2 x2
      · skip
        have r1' := r1.mono x2.sub
        cases x with
        | cell c =>
          cases k with
          | int i =>
            cases r2
            cases r1' with
            | cell hc =>
              obtain ⟨cl, a1, a2⟩ := w2.cel' hc
              simp only [a1] at h
              cases cl with
              | lst xs =>
                obtain ⟨zF, vs, a3, a4⟩ := a2
                simp only at h
                cases e3 : ixN xs.length i with
                | none => simp only [e3] at h; exact h.elim
                | some j =>
                  simp only [e3] at h
                  have u : Sub o o2 := x1.sub.trans x2.sub
                  refine ⟨_, vs, i, j, rfl, rfl, a3, by rw [a4.len]; exact e3, ?_⟩
                  have w3 := cell_wd (cl := .lst (xs.set j d)) w2 hc zF ⟨zF, _, upd_same, a4.set (rv.mono u) j⟩
                  exact h o2 s _ (q2.ext' w3 (cell_ext w2 hc)) u
              | _ => exact h.elim
          | _ => exact h.elim
        | _ => exact h.elim
/-! ### statements -/
theorem h_snil : HSs X C [] sNil := pss_by pss_nil fun D s H ⟨o0, H0, o, r, st, q, h⟩ => h o s H q (.refl o)
theorem rd_seq {a b : SS} {D : Ends} (h : tS K E (sSeq a b C) D s H) : tSeq (tS K E (a C)) (tS K E (b C)) D s H := by
  obtain ⟨o0, H0, o, r, st, q, h⟩ := h
  refine ⟨o0, H0, o, r, st, q, OutR.b h fun f st1 e1 h => ?_⟩
  cases f with
  | nx r1 => exact fun o1 s1 H1 q1 u1 => ⟨o0, H0, o1, r1, st1, q1, OutS.later h u1⟩
  | rt d => exact h
  | bk r => exact h
  | ct r => exact h
theorem h_scons {a : Stmt} {as : List Stmt} {sa sb : SS} (h1 : HS X C a sa) (h2 : HSs X C as sb) : HSs X C (a :: as) (sSeq sa sb) := pss_by (pss_cons h1 h2) fun D s H h => rd_seq h
theorem h_sone {a : Stmt} {sa : SS} (h1 : HS X C a sa) : HSs X C [a] sa := pss_one h1
theorem h_asg {tg : Expr} {g : SG} (he : HE X C e sa) (hg : HG X C tg g) (hs : swapsWithSole [tg] e pos.line X.env = pure false) (hw : swappedStores [tg] e X.env = pure none) (h1 : (assignEach [tg] X.env).map (·.2) = [assign tg X.env]) : HS X C (.Assign [tg] e pos) (sAsg sa g) :=
  ps_by (ps_asg he hg hs hw h1) fun D s H ⟨o0, H0, o, r, st, q, h⟩ => by
    exact ⟨o, r, st, q.wd, q.loc, OutR.bx h q.x fun d st1 e1 h v o1 H1 w1 x1 r1 => ⟨o0, H0, o1, r, st1, d, q.ext' w1 x1, r1, OutR.b h fun r2 st2 e2 h o2 s2 H2 q2 u2 => h o2 s2 H2 q2 (x1.sub.trans u2)⟩⟩
theorem rd_set {i : Nat} {D : Ends} (h : tS K E (sAsg sa (gTg (.nm i)) C) D s H) : tAsg (tD K E (sa C)) (gName i) D s H := by
  obtain ⟨o0, H0, o, r, st, q, h⟩ := h
  exact ⟨o, r, st, q.wd, q.loc, OutR.bx h q.x fun d st1 e1 h v o1 H1 w1 x1 r1 => h o1 _ H1 ((q.ext' w1 x1).put i r1) x1.sub⟩
theorem h_set {i : Nat} {x : Str} {pos' : Pos} (hN : X.N.Nodup) (hi : X.N[i]? = some x) (hx : Loc X.env.scope x) (he : HE X C e sa) (hs : swapsWith e (some (.Name x pos')) pos.line X.env = pure false) (hf : X.fn x = true ∨ X.env.scope.names.lookup x = some .local) :
    HS X C (.Assign [.Name x pos'] e pos) (sAsg sa (gTg (.nm i))) := ps_by (ps_set hN hi hx he hs hf) fun D s H h => rd_set h
theorem h_exp (he : HE X C e sa) (hs : swapsWith e none pos.line X.env = pure false) : HS X C (.Expr e pos) (sExp sa) := ps_by (ps_expr he hs) fun D s H ⟨o0, H0, o, r, st, q, h⟩ => by
  exact ⟨o, r, st, q.wd, q.loc, OutR.bx h q.x fun d st1 e1 h v o1 H1 w1 x1 r1 => h o1 s H1 (q.ext' w1 x1) x1.sub⟩
theorem h_ret (he : HE X C e sa) : HS X C (.Return (some e) pos) (sRet sa) := ps_by (ps_ret he) fun D s H ⟨o0, H0, o, r, st, q, h⟩ => by
  exact ⟨o, r, st, q.wd, q.loc, OutR.bx h q.x fun d st1 e1 h v o1 H1 w1 x1 r1 => h v o1 H1 w1 (q.ext.trans q.wd x1) r1⟩
theorem h_sif {a b : List Stmt} {sb sc : SS} (hc : HT X C e ta) (ha : HSs X C a sb) (hb : HSs X C b sc) : HS X C (.If e a b pos) (sIf ta sb sc) := ps_by (ps_if hc ha hb) fun D s H ⟨o0, H0, o, r, st, q, h⟩ => by
  refine ⟨o, r, st, q.wd, q.loc, OutR.bx h q.x fun k st1 e1 h o1 H1 w1 x1 => ?_⟩
  cases k with
  | true => exact iteT ⟨o0, H0, o1, r, st1, q.ext' w1 x1, OutS.later h x1.sub⟩
  | false => exact iteF ⟨o0, H0, o1, r, st1, q.ext' w1 x1, OutS.later h x1.sub⟩
theorem h_pass : HS X C (.Pass pos) sNil := ps_by ps_pass fun D s H ⟨o0, H0, o, r, st, q, h⟩ => h o s H q (.refl o)
theorem h_brk : HS X C (.Break pos) sBrk := ps_by ps_break fun D s H ⟨o0, H0, o, r, st, q, h⟩ => h o s H q (.refl o)
theorem h_cnt : HS X C (.Continue pos) sCnt := ps_by ps_continue fun D s H ⟨o0, H0, o, r, st, q, h⟩ => h o s H q (.refl o)
theorem h_never {st : Stmt} : HS X C st (fun _ _ _ => .bad) := ps_by ps_never fun D s H ⟨o0, H0, o, r, st, q, h⟩ => h.elim
theorem h_par {i j : Nat} {x y : Str} {a b : Expr} {px py pt : Pos} {kt k2 : Nat} {pt2 : Pos} (hc : X.calm = true) (hN : X.N.Nodup) (hi : X.N[i]? = some x) (hj : X.N[j]? = some y) (hij : i ≠ j)
    (hx : X.env.scope.names.lookup x = some .local) (hy : X.env.scope.names.lookup y = some .local) (ha : HA X C [a, b] ss) (hw : swappedStores [.Tuple [.Name x px, .Name y py] kt pt] (.Tuple [a, b] k2 pt2) X.env = pure (some [x, y]))
    (hs : swapsWithSole [.Tuple [.Name x px, .Name y py] kt pt] (.Tuple [a, b] k2 pt2) pos.line X.env = pure false) :
    HS X C (.Assign [.Tuple [.Name x px, .Name y py] kt pt] (.Tuple [a, b] k2 pt2) pos) (sPar [i, j] ss) :=
  ps_by (ps_par hc hN hi hj hij hx hy ha hw hs) fun D s H ⟨o0, H0, o, r, st, q, h⟩ => by
    refine ⟨o, r, st, q.wd, q.loc, OutR.bx h q.x fun ds st1 e1 h vs o1 H1 w1 x1 r1 => ?_⟩
    obtain ⟨r2, e2, h⟩ := OutR.liftB h
    have q1 := q.ext' w1 x1
    cases r1 with
    | nil => cases e2
    | cons a1 b1 =>
      cases b1 with
      | nil => cases e2
      | cons a2 b2 =>
        cases b2 with
        | cons _ _ => cases e2
        | nil =>
          cases e2
          exact ⟨_, _, rfl, h o1 _ H1 ((q1.put i a1).put j a2) x1.sub⟩
theorem h_par3 {i j l : Nat} {x y z : Str} {a b c : Expr} {px py pz pt : Pos} {kt k2 : Nat} {pt2 : Pos} (hc : X.calm = true) (hN : X.N.Nodup) (hi : X.N[i]? = some x) (hj : X.N[j]? = some y) (hl : X.N[l]? = some z) (hij : i ≠ j) (hil : i ≠ l) (hjl : j ≠ l)
    (hx : X.env.scope.names.lookup x = some .local) (hy : X.env.scope.names.lookup y = some .local) (hz : X.env.scope.names.lookup z = some .local) (ha : HA X C [a, b, c] ss) (hw : swappedStores [.Tuple [.Name x px, .Name y py, .Name z pz] kt pt] (.Tuple [a, b, c] k2 pt2) X.env = pure (some [x, y, z]))
    (hs : swapsWithSole [.Tuple [.Name x px, .Name y py, .Name z pz] kt pt] (.Tuple [a, b, c] k2 pt2) pos.line X.env = pure false) :
    HS X C (.Assign [.Tuple [.Name x px, .Name y py, .Name z pz] kt pt] (.Tuple [a, b, c] k2 pt2) pos) (sPar [i, j, l] ss) :=
  ps_by (ps_par3 hc hN hi hj hl hij hil hjl hx hy hz ha hw hs) fun D s H ⟨o0, H0, o, r, st, q, h⟩ => by
    refine ⟨o, r, st, q.wd, q.loc, OutR.bx h q.x fun ds st1 e1 h vs o1 H1 w1 x1 r1 => ?_⟩
    obtain ⟨r2, e2, h⟩ := OutR.liftB h
    have q1 := q.ext' w1 x1
    cases r1 with
    | nil => cases e2
    | cons a1 b1 =>
      cases b1 with
      | nil => cases e2
      | cons a2 b2 =>
        cases b2 with
        | nil => cases e2
        | cons a3 b3 =>
          cases b3 with
          | cons _ _ => cases e2
          | nil =>
            cases e2
            exact ⟨_, _, _, rfl, h o1 _ H1 (((q1.put i a1).put j a2).put l a3) x1.sub⟩
/-- o.f = e -/
theorem h_sfld {o : Expr} {so : SE} {f : Str} {p' : Pos} {tab : List (Str × AK)} (ho : HE X C o so) (he : HE X C e sa) (hs : swapsWith e (some (.Attribute o f p')) pos.line X.env = pure false)
    (ht : ∀ c, tab.lookup c = some .fld → Cls X.K (He.ga X.K c) ∧ NoAttr X.K (He.ga X.K c) f) : HS X C (.Assign [.Attribute o f p'] e pos) (sAsg sa (gFld f tab so)) :=
  ps_by (ps_fld ho he hs) fun D s H ⟨o0, H0, o, r, st, q, h⟩ => by
    refine ⟨o, r, st, q.wd, q.loc, OutR.bx h q.x fun d st1 e1 h v o1 H1 w1 x1 r1 => ?_⟩
    have q1 := q.ext' w1 x1
    unfold gFld at h
    rw [bind_bind'] at h
    refine ⟨o1, r, st1, w1, q1.loc, OutR.bx h q1.x fun x st2 e3 h vx o2 H2 w2 x2 r2' => ?_⟩
    · obtain ⟨r2, st3, e2, h⟩ := bindOk h (by
        intro y st z
        cases x with
        | cell i =>
          simp only at z
          split at z
          · split at z
            · split at z <;> cases z
            · cases z
          · cases z
        | _ => cases z)
      have q2 := q1.ext' w2 x2
      cases x with
      | cell i =>
        cases r2' with
        | cell hi =>
          obtain ⟨cl, a1, a2⟩ := w2.cel' hi
          simp only [a1] at e2
          cases cl with
          | obj c ns xs =>
            simp only at e2
            cases et : tab.lookup c with
            | none => rw [et] at e2; cases e2
            | some k =>
              rw [et] at e2
              cases k with
              | fld =>
                simp only at e2
                split at e2
                · rename_i hz
                  cases e2
                  obtain ⟨zF, dx, vs, b1, b2, b3, b4⟩ := a2
                  obtain ⟨cl, na⟩ := ht c et
                  have rv := r1.mono x2.sub
                  refine ⟨_, _, dx, _, rfl, b1, cl, na, ?_, ?_⟩
                  · rw [List.length_zip, ← b3, Nat.min_self]
                    exact hz
                  · rw [putF_zip f v ns vs b3]
                    have w3 := cell_wd (cl := .obj c (putN f ns) (putX f d ns xs)) w2 hi zF ⟨zF, dx, _, upd_same, b2, putX_len f v ns vs b3, putX_rep rv b4⟩
                    exact h o2 s _ (q2.ext' w3 (cell_ext w2 hi)) (x1.sub.trans x2.sub)
                · cases e2
              | _ => cases e2
          | _ => cases e2
      | _ => cases e2
/-! ### loops -/
theorem h_for {tg iter : Expr} {body : List Stmt} {it : SA} {g : Tg} {b : SS} (hp : PassesOwn (model X.prog X.w) X.A X.env X.xe) (hc : X.calm = true) (hi : HI X C tg iter it) (hg : PG X tg (tTg X.K g)) (hb : HSs X C body b)
    (hs : ∀ x, foldedSetIterable iter X.env x = pure x) : HS X C (.For tg iter body [] pos) (sFor it g b) :=
  ps_by (ps_for hp hc hi hg hb hs) fun D s H ⟨o0, H0, o, r, st, q, h⟩ => by
    refine ⟨o, r, st, q.wd, q.loc, OutR.bx h q.x fun xs st1 e1 h J o1 H1 w1 x1 wk => ?_⟩
    refine ⟨fun i m s2 H2 => m = xs.length - i ∧ i ≤ xs.length ∧ ∃ o2 r2 st2, SOk X.K o0 H0 o2 s2 H2 r2 st2 ∧ Sub o1 o2 ∧ OutS X.K (wx X) o0 H0 o2 (forGo g b C (xs.drop i) r2 st2) D, ⟨xs.length, by simp, Nat.zero_le _, o1, r, st1, q.ext' w1 x1, .refl o1, ?_⟩, ?_⟩
    · rw [List.drop_zero]
      exact OutS.later h x1.sub
    rintro i m s2 H2 ⟨rfl, hi, o2, r2, st2, q2, u2, h⟩
    by_cases hlt : i < xs.length
    · right
      have hx : xs[i]? = some xs[i] := List.getElem?_eq_getElem hlt
      obtain ⟨gg, yy⟩ := (wk o2 H2 st2 i u2 q2.wd).1 xs[i] hx
      refine ⟨gg, _, fun s' H' q => ⟨xs.length - (i + 1), by omega, rfl, hlt, q⟩, fun x H' y => ?_⟩
      obtain ⟨o3, w3, x3, r3⟩ := yy x H' y
      have q3 := q2.ext' w3 x3
      rw [List.drop_eq_getElem_cons hlt] at h
      unfold forGo at h
      cases eb : bindT g xs[i] r2 with
      | none => rw [eb] at h; exact h.elim
      | some r4 =>
        rw [eb] at h
        simp only [lift_some, bind_ok] at h
        refine ⟨o3, st2, r2, _, r4, w3, q3.loc, r3, eb, fun s4 l4 k4 => ?_⟩
        have q4 : SOk X.K o0 H0 o3 s4 H' r4 st2 := ⟨w3, q3.ext, l4, fun j ys p h1 h2 => by
          obtain ⟨a, c⟩ := own_bindT g _ r2 r4 eb j ys h1
          rw [k4 j c] at h2
          exact q3.fresh j ys p a h2⟩
        refine ⟨o0, H0, o3, r4, st2, q4, ?_⟩
        cases ef : b C r4 st2 with
        | exc _ _ => rw [ef] at h; exact h
        | bad => rw [ef] at h; exact h.elim
        | ok f st5 =>
          rw [ef] at h
          simp only [bind_ok] at h
          cases f with
          | nx r5 => exact fun o5 s5 H5 q5 u5 => ⟨o5, r5, st5, q5, (u2.trans x3.sub).trans u5, OutS.later (OutS.later h x3.sub) u5⟩
          | ct r5 => exact fun o5 s5 H5 q5 u5 => ⟨o5, r5, st5, q5, (u2.trans x3.sub).trans u5, OutS.later (OutS.later h x3.sub) u5⟩
          | bk r5 => exact fun o5 s5 H5 q5 u5 => h o5 s5 H5 q5 (x3.sub.trans u5)
          | rt d => exact h
    · left
      have e : i = xs.length := by omega
      refine ⟨(wk o2 H2 st2 i u2 q2.wd).2 e, ?_⟩
      rw [e, List.drop_length] at h
      exact h o2 s2 H2 q2 (.refl o2)
theorem h_whl {body : List Stmt} {b : SS} (hp : PassesOwn (model X.prog X.w) X.A X.env X.xe) (hc : HT X C e ta) (hb : HSs X C body b) : HS X C (.While e body [] pos) (sWhl ta b) :=
  ps_by (ps_while hp hc hb) fun D s H ⟨o0, H0, o, r, st, q, h⟩ => by
    unfold sWhl at h
    split at h
    rotate_left
    · exact h.elim
    rename_i hx
    have hy := hx.choose_spec.choose_spec
    generalize hx.choose_spec.choose = res at h hy
    generalize hx.choose = n at hy
    clear hx
    refine ⟨fun m s2 H2 => ∃ o2 r2 st2, SOk X.K o0 H0 o2 s2 H2 r2 st2 ∧ whileGo ta b C m r2 st2 = some res ∧ OutS X.K (wx X) o0 H0 o2 res D, ⟨n, o, r, st, q, hy, h⟩, ?_⟩
    rintro m s2 H2 ⟨o2, r2, st2, q2, hw, h⟩
    cases m with
    | zero => cases hw
    | succ m =>
      unfold whileGo at hw
      refine ⟨o2, r2, st2, q2.wd, q2.loc, ?_⟩
      cases et : ta C r2 st2 with
      | exc _ _ => rw [et] at hw; cases hw; exact q2.x _ _ h
      | bad => rw [et] at hw; cases hw; exact h.elim
      | ok k st3 =>
        rw [et] at hw
        intro o3 H3 w3 x3
        have q3 := q2.ext' w3 x3
        cases k with
        | false =>
          cases hw
          exact iteF (h o3 s2 H3 q3 x3.sub)
        | true =>
          simp only at hw
          refine iteT ⟨fun s' H' => ∃ o4 r4 st4, SOk X.K o0 H0 o4 s' H' r4 st4 ∧ whileGo ta b C m r4 st4 = some res ∧ OutS X.K (wx X) o0 H0 o4 res D, fun s' H' q => ⟨m, Nat.lt_succ_self m, q⟩, o0, H0, o3, r2, st3, q3, ?_⟩
          cases ef : b C r2 st3 with
          | exc _ _ => rw [ef] at hw; cases hw; exact h
          | bad => rw [ef] at hw; cases hw; exact h.elim
          | ok f st5 =>
            rw [ef] at hw
            cases f with
            | nx r5 => exact fun o5 s5 H5 q5 u5 => ⟨o5, r5, st5, q5, hw, OutS.later (OutS.later h x3.sub) u5⟩
            | ct r5 => exact fun o5 s5 H5 q5 u5 => ⟨o5, r5, st5, q5, hw, OutS.later (OutS.later h x3.sub) u5⟩
            | bk r5 =>
              cases hw
              exact fun o5 s5 H5 q5 u5 => h o5 s5 H5 q5 (x3.sub.trans u5)
            | rt d =>
              cases hw
              exact h
end
end DS
namespace DS
open PySem L2 PyProof.Rows
/-! ## lists of a def's own -/
section
variable {K : PySem.W.Frag} {E : XK} {o0 o o1 : Wo} {H0 H H1 : Hp} {s : L2.St} {r : REnv} {st st1 : Store}
theorem lt_of_get {α : Type} {l : List α} {i : Nat} {a : α} (h : l[i]? = some a) : i < l.length := (List.getElem?_eq_some_iff.mp h).1
/-- place i holds a list of its own: made anew, or changed -/
theorem SOk.own_put (q : SOk K o0 H0 o s H r st) {i : Nat} {p : Addr} {vs : List V} {xs : List D} (hF : o.F p = none) (hc : ∀ j, j < o.n → p ≠ o.m j) (h0 : H0 p = none) (rv : Reps K o vs xs)
    (hd : ∀ (j : Nat) ys, r[j]? = some (Slot.own ys) → s[j]? = some (some (V.ref p)) → j = i) : SOk K o0 H0 o (s.set i (some (.ref p))) (upd H p (.lst vs)) (r.set i (.own xs)) st := by
  have ne : ∀ a u, o.F a = some u → a ≠ p := fun a u h z => by rw [z, hF] at h; cases h
  have sw : ∀ {j : Nat} {q' : Slot}, (r.set i (.own xs))[j]? = some q' → (i = j ∧ q' = .own xs ∧ i < r.length) ∨ (i ≠ j ∧ r[j]? = some q') := fun {j q'} h => by
    by_cases c : i = j
    · subst c
      have hl : i < r.length := by
        have := lt_of_get h
        rw [List.length_set] at this
        exact this
      rw [List.getElem?_set_self hl] at h
      exact .inl ⟨rfl, (Option.some.inj h).symm, hl⟩
    · rw [List.getElem?_set_ne c] at h
      exact .inr ⟨c, h⟩
  have own_ne : ∀ {j : Nat} {ys : List D} {p' : Addr}, i ≠ j → r[j]? = some (Slot.own ys) → s[j]? = some (some (V.ref p')) → p' ≠ p := fun {j ys p'} c h1 h2 z => by
    subst z
    exact c (hd j ys h1 h2).symm
  refine ⟨⟨q.wd.n, fun a u h => by rw [upd_ne (ne a u h)]; exact q.wd.sub a u h, fun j ys h => ?_, q.wd.inj⟩, ⟨q.ext.sub, q.ext.new, q.ext.cel, fun a u h n => by rw [upd_ne (ne_of_none h h0)]; exact q.ext.keep a u h n⟩, ⟨by rw [List.length_set, List.length_set]; exact q.loc.len, fun j d h => ?_, fun j ys h => ?_, fun j k ys zs p' h1 h2 h3 h4 => ?_⟩, fun j ys p' h1 h2 => ?_⟩
  · exact (q.wd.cel j ys h).move (.refl _) (fun z => z) fun u z => by rw [upd_ne (hc j (by rw [q.wd.n]; exact lt_of_get h)).symm]; exact z
  · rcases sw h with ⟨_, e, _⟩ | ⟨c, h⟩
    · cases e
    · rw [List.getElem?_set_ne c]
      exact q.loc.val j d h
  · rcases sw h with ⟨rfl, e, hl⟩ | ⟨c, h⟩
    · cases e
      exact ⟨p, vs, by rw [List.getElem?_set_self (by rw [q.loc.len]; exact hl)], upd_same, hF, hc, rv⟩
    · obtain ⟨p', ws, a, b, c1, d, f⟩ := q.loc.own j ys h
      exact ⟨p', ws, by rw [List.getElem?_set_ne c]; exact a, by rw [upd_ne (own_ne c h a)]; exact b, c1, d, f⟩
  · rcases sw h1 with ⟨rfl, e, hl⟩ | ⟨c, h1⟩
    · rcases sw h2 with ⟨rfl, _, _⟩ | ⟨c', h2⟩
      · rfl
      · rw [List.getElem?_set_self (by rw [q.loc.len]; exact hl)] at h3
        rw [List.getElem?_set_ne c'] at h4
        cases h3
        exact absurd rfl (own_ne c' h2 h4)
    · rw [List.getElem?_set_ne c] at h3
      rcases sw h2 with ⟨rfl, _, hl⟩ | ⟨c', h2⟩
      · rw [List.getElem?_set_self (by rw [q.loc.len]; exact hl)] at h4
        cases h4
        exact absurd rfl (own_ne c h1 h3)
      · rw [List.getElem?_set_ne c'] at h4
        exact q.loc.inj j k ys zs p' h1 h2 h3 h4
  · rcases sw h1 with ⟨rfl, e, hl⟩ | ⟨c, h1⟩
    · rw [List.getElem?_set_self (by rw [q.loc.len]; exact hl)] at h2
      cases h2
      exact h0
    · rw [List.getElem?_set_ne c] at h2
      exact q.fresh j ys p' h1 h2
theorem SOk.own_new (q : SOk K o0 H0 o s H r st) (i : Nat) {p : Addr} {vs : List V} {xs : List D} (hp : H p = none) (rv : Reps K o vs xs) : SOk K o0 H0 o (s.set i (some (.ref p))) (upd H p (.lst vs)) (r.set i (.own xs)) st := by
  refine q.own_put (q.wd.fnone hp) (fun j hj z => ?_) (q.ext.free q.wd hp) rv fun j ys h1 h2 => ?_
  · obtain ⟨_, b⟩ := q.wd.celS hj
    rw [← z, hp] at b
    cases b
  · obtain ⟨p', ws, a, b, _⟩ := q.loc.own j ys h1
    rw [h2] at a
    cases a
    rw [hp] at b
    cases b
/-- from now on it never changes -/
theorem SOk.frz (q : SOk K o0 H0 o s H r st) {i : Nat} {xs : List D} (h : r[i]? = some (Slot.own xs)) : ∃ o', SOk K o0 H0 o' s H (r.set i (.val (.lst xs))) st ∧ Sub o o' := by
  obtain ⟨p, vs, a, b, c, d, f⟩ := q.loc.own i xs h
  have h0 := q.fresh i xs p h a
  have hl := lt_of_get h
  have s6 : Sub o (o.put p (.lst vs)) := ⟨fun x u z => by
    show upd o.F p _ x = some u
    rw [upd_ne (ne_of_none z c)]
    exact z, fun _ _ => rfl, Nat.le_refl _⟩
  have sw : ∀ {j : Nat} {q' : Slot}, (r.set i (.val (.lst xs)))[j]? = some q' → (i = j ∧ q' = .val (.lst xs)) ∨ (i ≠ j ∧ r[j]? = some q') := fun {j q'} h => by
    by_cases c : i = j
    · subst c
      rw [List.getElem?_set_self hl] at h
      exact .inl ⟨rfl, (Option.some.inj h).symm⟩
    · rw [List.getElem?_set_ne c] at h
      exact .inr ⟨c, h⟩
  have other : ∀ {j : Nat} {ys : List D} {p' : Addr}, i ≠ j → r[j]? = some (Slot.own ys) → s[j]? = some (some (V.ref p')) → p' ≠ p := fun {j ys p'} n h1 h2 z => by
    subst z
    exact n (q.loc.inj i j xs ys p' h h1 a h2)
  refine ⟨o.put p (.lst vs), ⟨⟨q.wd.n, fun x u z => ?_, fun j ys z => ?_, q.wd.inj⟩, ⟨q.ext.sub.trans s6, fun x u z n => ?_, q.ext.cel, q.ext.keep⟩, ⟨by rw [List.length_set]; exact q.loc.len, fun j e z => ?_, fun j ys z => ?_, fun j k ys zs p' h1 h2 h3 h4 => ?_⟩, fun j ys p' h1 h2 => ?_⟩, s6⟩
  · by_cases e : x = p
    · subst e
      have z : upd o.F x (.lst vs) x = some u := z
      rw [upd_same] at z
      rw [b]
      exact z
    · have z : upd o.F p (.lst vs) x = some u := z
      rw [upd_ne e] at z
      exact q.wd.sub x u z
  · refine (q.wd.cel j ys z).move s6 (fun y => ?_) fun _ y => y
    show upd o.F p _ (o.m j) = none
    rw [upd_ne (d j (by rw [q.wd.n]; exact lt_of_get z)).symm]
    exact y
  · by_cases e : x = p
    · rw [e]
      exact h0
    · have z : upd o.F p (.lst vs) x = some u := z
      rw [upd_ne e] at z
      exact q.ext.new x u z n
  · rcases sw z with ⟨rfl, e⟩ | ⟨n, z⟩
    · cases e
      exact ⟨_, a, .lst upd_same (f.mono s6)⟩
    · obtain ⟨v, x1, x2⟩ := q.loc.val j e z
      exact ⟨v, x1, x2.mono s6⟩
  · rcases sw z with ⟨_, e⟩ | ⟨n, z⟩
    · cases e
    · obtain ⟨p', ws, x1, x2, x3, x4, x5⟩ := q.loc.own j ys z
      refine ⟨p', ws, x1, x2, ?_, x4, x5.mono s6⟩
      show upd o.F p _ p' = none
      rw [upd_ne (other n z x1)]
      exact x3
  · rcases sw h1 with ⟨_, e⟩ | ⟨n, h1⟩
    · cases e
    · rcases sw h2 with ⟨_, e⟩ | ⟨n', h2⟩
      · cases e
      · exact q.loc.inj j k ys zs p' h1 h2 h3 h4
  · rcases sw h1 with ⟨_, e⟩ | ⟨n, h1⟩
    · cases e
    · exact q.fresh j ys p' h1 h2
variable {X : Cx} {C : FEnv} {e : Expr} {sa : SE} {ss : SA} {pos : Pos}
theorem h_frz {a : Stmt} {b : SS} (i : Nat) (h : HS X C a b) : HS X C a (sSeq (sFrz i) b) := ps_by h fun D s H ⟨o0, H0, o, r, st, q, h⟩ => by
  unfold sSeq sFrz at h
  split at h
  · rename_i xs e
    obtain ⟨o', q', u⟩ := q.frz e
    exact ⟨o0, H0, o', _, st, q', OutS.later h u⟩
  · exact ⟨o0, H0, o, r, st, q, h⟩
theorem h_own {i n : Nat} {x : Str} {pos' p2 : Pos} {es : List Expr} (hN : X.N.Nodup) (hi : X.N[i]? = some x) (hx : Loc X.env.scope x) (ha : HA X C es ss) (hl : Long n ss) (hn : n ≤ sizeLine) (hf : X.fn x = true ∨ X.env.scope.names.lookup x = some .local) :
    HS X C (.Assign [.Name x pos'] (.List es p2) pos) (sOwn i ss) := ps_by (ps_set hN hi hx (pe_lst ha) rfl hf) fun D s H ⟨o0, H0, o, r, st, q, h⟩ => by
  refine ⟨o, r, st, q.wd, q.loc, OutR.bx h q.x fun ds st1 e1 h vs o1 H1 w1 x1 r1 => ?_⟩
  refine ⟨by rw [r1.len, hl _ _ _ _ _ e1]; exact hn, fun p np => ?_⟩
  exact h o1 _ _ ((q.ext' w1 x1).own_new i np r1) x1.sub
theorem h_app {i : Nat} {x : Str} {p1 p2 p3 : Pos} (hi : X.N[i]? = some x) (hv : Vis X.env.scope x) (h1 : (x == ("__debug__" : Str)) = false) (h2 : (x == ("__classdict__" : Str)) = false) (ha : HE X C e sa)
    (hs : starEach [e] X.env = [(false, eval e X.env)]) (hline : (p2.endLine == p3.line) = true) : HS X C (.Expr (.Call (.Attribute (.Name x p1) "append" p2) [e] [] p3) pos) (sApp i sa) := by
  refine ps_by (ps_expr (pe_bm PySem.F.plainAttrs_list PySem.F.slot_list_append PySem.F.type_list_append mt_append (pe_var hi hv h1 h2) (pa_cons ha pa_nil (by rw [hs]; rfl)) rfl (by rw [hs]; rfl) hline (by rw [hs]; rfl) rfl) rfl) fun D s H ⟨o0, H0, o, r, st, q, h⟩ => ?_
  unfold sApp at h
  split at h
  rotate_left
  · exact h.elim
  rename_i xs er
  obtain ⟨p, vs, a, b, c, dd, f⟩ := q.loc.own i xs er
  refine ⟨.ref p, a, .inl ⟨rfl, _, SqL.of b⟩, o, r, st, q.wd, q.loc, OutR.bx h q.x fun d st1 e1 h v o1 H1 w1 x1 r1 => ?_⟩
  split at h
  rotate_left
  · exact h.elim
  rename_i hz
  have q1 := q.ext' w1 x1
  obtain ⟨p', vs', a', b', c', dd', f'⟩ := q1.loc.own i xs er
  rw [a] at a'
  cases a'
  refine ⟨_, vs', v, rfl, rfl, b', by rw [f'.len]; exact hz, ?_⟩
  have es : s.set i (some (.ref p)) = s := by
    apply List.ext_getElem?
    intro j
    by_cases cj : i = j
    · subst cj
      rw [List.getElem?_set_self (lt_of_get a), a]
    · rw [List.getElem?_set_ne cj]
  have := q1.own_put (i := i) (p := p) c' dd' (q1.fresh i xs p er a) (f'.app (.cons r1 .nil)) fun j ys h3 h4 => q1.loc.inj j i ys xs p h3 er h4 a
  rw [es] at this
  exact h o1 s _ this x1.sub
/-- x[lo:hi] of a list of one's own: a new list -/
def eSlO (i : Nat) (lo hi : SO) : SE := fun C r st => match r[i]? with
  | some (.own xs) => (lo C r st).bind fun l st => (hi C r st).bind fun h st => .ok (.lst (cutD xs l h)) st
  | some (.val d) => (lo C r st).bind fun l st => (hi C r st).bind fun h st => lift (dSl d l h) st
  | _ => .bad
theorem h_slO {i : Nat} {x : Str} {p1 p2 : Pos} {lo hi : Option Expr} {sl sh : SO} (hN : X.N[i]? = some x) (hv : Vis X.env.scope x) (h1 : (x == ("__debug__" : Str)) = false) (h2 : (x == ("__classdict__" : Str)) = false) (hl : HO' X C lo sl) (hh : HO' X C hi sh) :
    HE X C (.Subscript (.Name x p1) (.Slice lo hi none p2) pos) (eSlO i sl sh) :=
  pe_by (pe_slice (SlR.or sl_list sl_d) (pe_var hN hv h1 h2) hl hh) fun s H Q ⟨o, r, st, w, l, h⟩ => by
    unfold eSlO at h
    split at h
    · rename_i xs er
      obtain ⟨p, vs, a1, _⟩ := l.own i xs er
      refine ⟨.ref p, a1, o, r, st, w, l, OutR.b h fun a st1 e1 h o1 H1 w1 x1 => ⟨o1, r, st1, w1, l.ext x1, (OutD.later h w1 x1).b fun b st2 e2 h o2 H2 w2 x2 => ?_⟩⟩
      have x12 := x1.trans w1 x2
      obtain ⟨p', vs', a2, b2, _, _, f2⟩ := (l.ext x12).own i xs er
      rw [a1] at a2
      cases a2
      exact .inl ⟨p, vs', rfl, SqL.of b2, fun z nz => h _ (o2.put z (.lst (cutV vs' a b))) _ (put_wd w2 nz) (x2.trans w2 (put_ext w2 nz)) (.lst upd_same ((cut_rep f2 a b).mono (put_sub w2 nz)))⟩
    · rename_i d er
      obtain ⟨v, a1, rv⟩ := l.val i d er
      refine ⟨v, a1, o, r, st, w, l, OutR.b h fun a st1 e1 h o1 H1 w1 x1 => ⟨o1, r, st1, w1, l.ext x1, (OutD.later h w1 x1).b fun b st2 e2 h o2 H2 w2 x2 => ?_⟩⟩
      obtain ⟨z, e4, h⟩ := h.lift
      have x12 := x1.trans w1 x2
      exact .inr ⟨o2, st2, d, z, w2, rv.mono x12.sub, e4, fun v' o' H' w' x' q => h v' o' H' w' (x2.trans w2 x') q⟩
    · exact h.elim
/-- x = a + b, a list of one's own -/
def sOwnA (i : Nat) (a b : SE) : SS := fun C r st => (a C r st).bind fun d st => (b C r st).bind fun e st => match d, e with
  | .lst xs, .lst ys => if xs.length + ys.length ≤ sizeLine then .ok (.nx (r.set i (.own (xs ++ ys)))) st else .bad
  | _, _ => .bad
theorem h_ownA {i : Nat} {x : Str} {pos' p2 : Pos} {a b : Expr} {sa sb : SE} (hN : X.N.Nodup) (hi : X.N[i]? = some x) (hx : Loc X.env.scope x) (ha : HE X C a sa) (hb : HE X C b sb) (hf : X.fn x = true ∨ X.env.scope.names.lookup x = some .local) :
    HS X C (.Assign [.Name x pos'] (.BinOp a .Add b p2) pos) (sOwnA i sa sb) := ps_by (ps_set hN hi hx (pe_op op_cat ha hb) rfl hf) fun D s H ⟨o0, H0, o, r, st, q, h⟩ => by
  refine ⟨o, r, st, q.wd, q.loc, OutR.bx h q.x fun d st1 e1 h v o1 H1 w1 x1 r1 => ⟨o1, r, st1, w1, q.loc.ext x1, OutR.bx h (q.ext' w1 x1).x fun e st2 e2 h u o2 H2 w2 x2 r2 => ?_⟩⟩
  have x12 := x1.trans w1 x2
  split at h
  · rename_i xs ys
    split at h
    · rename_i c
      cases r1 with
      | lst a1 a2 =>
        cases r2 with
        | lst b1 b2 =>
          have ra := a2.mono x2.sub
          refine ⟨_, _, _, _, rfl, rfl, w2.sub _ _ (x2.sub.f _ _ a1), w2.sub _ _ b1, by rw [ra.len, b2.len]; exact c, fun p np => ?_⟩
          exact h o2 _ _ ((q.ext' w2 x12).own_new i np (ra.app b2)) x12.sub
    · exact h.elim
  · exact h.elim
/-! ## a def -/
theorem start_ok {N : List Str} {vs : List V} {ds : List D} {P0 : List Str} (w : Wd K o H st) (rv : Reps K o vs ds) (hl : vs.length ≤ N.length) : SOk K o H o (L2.start N vs) H (ds.map .val ++ List.replicate (N.length - ds.length) .un) st := by
  have gv : ∀ {i : Nat} {q : Slot}, (ds.map Slot.val ++ List.replicate (N.length - ds.length) Slot.un)[i]? = some q → q = .un ∨ ∃ d v, q = .val d ∧ (L2.start N vs)[i]? = some (some v) ∧ Rep K o v d := fun {i q} h => by
    by_cases c : i < ds.length
    · rw [List.getElem?_append_left (by rw [List.length_map]; exact c), List.getElem?_map, List.getElem?_eq_getElem c] at h
      obtain ⟨v, e1, e2⟩ := rv.get (List.getElem?_eq_getElem c)
      cases h
      refine .inr ⟨_, v, rfl, ?_, e2⟩
      unfold L2.start
      rw [List.getElem?_append_left (by rw [List.length_map, rv.len]; exact c), List.getElem?_map, e1]
      rfl
    · rw [List.getElem?_append_right (by rw [List.length_map]; exact Nat.not_lt.mp c), List.getElem?_replicate] at h
      split at h
      · cases h; exact .inl rfl
      · cases h
  refine ⟨w, .refl o H, ⟨?_, fun i d h => ?_, fun i xs h => ?_, fun i j xs ys p h _ _ _ => ?_⟩, fun i xs p h _ => ?_⟩
  · unfold L2.start
    rw [List.length_append, List.length_append, List.length_map, List.length_map, List.length_replicate, List.length_replicate, rv.len]
  · rcases gv h with e | ⟨d', v, e, a, b⟩
    · cases e
    · cases e
      exact ⟨v, a, b⟩
  · rcases gv h with e | ⟨d', v, e, a, b⟩ <;> cases e
  · rcases gv h with e | ⟨d', v, e, a, b⟩ <;> cases e
  · rcases gv h with e | ⟨d', v, e, a, b⟩ <;> cases e
end
/-- what a def lets out -/
theorem OutX.def_ {P : Program} {w : World} {K : PySem.W.Frag} {mg : Str → Option Value} {base : Heap} {N : List Str} {qual : Str} {scope : Scope} {f : Addr} {cdv : Value} {A : Around} {outer : List Env} {s : Shared} {H0 : Hp} {E : XK} {o : Wo} {H : Hp} {x : D} {st : Store}
    (h : OutX K E o H x st) : OutX K (wx (cxOf (L2.CX P w) P w K mg base N qual scope f cdv A outer s H0 E)) o H x st := fun cls d o' H' w' e' r => wx_of (takes_of rfl rfl rfl rfl) (h cls d o' H' w' e' r)
theorem fn_g {P : Program} {w : World} {K : PySem.W.Frag} {mg : Str → Option Value} {base : Heap} {k : Nat} {f : Addr} {x qual : Str} {params : Arguments} {body : List Stmt} {scope : Scope} {dvs : List V} {kws : List (Str × V)} {fd : FuncData} {N ps : List Str} {b : SS} {C : FEnv}
    (F : FunD K x qual params body scope dvs kws f fd) (S : FnScope N ps scope)
    (hb : ∀ (cdv : Value) (A : Around) (outer : List Env) (s : Shared) (H : Hp) (E : XK), Room k (A.deeper (envOfC qual scope s.heap.objs.size f cdv)) → A.guards = some [] → HSs (cxOf (L2.CX P w) P w K mg base N qual scope f cdv A outer s H E) C body b) :
    FnG P w K mg base (k + 1) f fd ps (Prom K ps.length (DS.body N.length b C)) := by
  refine ⟨fun vs H Q E h => h.1, fun A outer s H args us vs Q E hr hg e0 hbd rv hsp => ?_⟩
  obtain ⟨hl, o, ds, st, wd, rd, out⟩ := hsp
  obtain ⟨oc, od, dV, kV, doc, pm, an, cdv, ct, osl, rfl, lk, hcd, _, _⟩ := F.ex
  have kin : K.In s.heap := e0.mod.kin.keeps fun b o e => (e0.bs b o e).1
  have nl : s.heap.NoLimit := e0.mod.nolimit.keeps fun b o e => (e0.bs b o e).1
  have nN : vs.length ≤ N.length := by
    have := congrArg List.length S.pre
    rw [List.length_take] at this
    omega
  refine codeAny_call_function hr.depth (kin _ _ lk) rfl S.co S.gen rfl (PySem.W.codeRec_of kin hcd) (hbd _ _ _ _ ?_)
  refine wpAny_newFunctionEnv_cells S.kind (fun y hy => ?_) fun env he s1 x1 => ?_
  · rcases S.par y.1 (List.of_mem_zip (show (y.1, y.2) ∈ ps.zip us from hy)).1 with q | q
    · exact .inl q
    · exact .inr ⟨q, PySem.W.cellsFrom_some _ _ _ (.inl q)⟩
  subst he
  refine ⟨nl.keeps x1.toInCall.keep, codeAny_func ?_⟩
  have ht := hb cdv A outer s H E (hr.deeper _) hg
  have I : Inv (cxOf (L2.CX P w) P w K mg base N qual scope f cdv A outer s H E) [] (L2.start N vs) H s1 := inv_start S hr.hd e0 hl rv x1
  refine wpAny_mono (ht.run [] s1 (L2.start N vs) H { nx := fun _ H' => Q .non H', rt := Q } I ?_) (fun fl s' hs => ?_) fun e s' hs => hs
  · refine ⟨o, H, o, _, st, start_ok (P0 := ps) wd rd nN, ?_⟩
    unfold DS.body at out
    cases e : b C (ds.map .val ++ List.replicate (N.length - ds.length) .un) st with
    | exc _ _ => rw [e] at out; exact OutX.def_ out
    | bad => rw [e] at out; exact out.elim
    | ok fl st1 =>
      rw [e] at out
      cases fl with
      | nx r => exact fun o' s' H' q u => out .non o' H' q.wd q.ext .non
      | rt d => exact fun v o' H' w' x' q => out v o' H' w' x' q
      | bk r => exact out.elim
      | ct r => exact out.elim
  · have fin : ∀ {σ' : L2.St} {H' : Hp} {v : V} {u : Value}, Inv (cxOf (L2.CX P w) P w K mg base N qual scope f cdv A outer s H E) [] σ' H' s' → RelV v u → Q v H' → CE outer P w H s Q u s' :=
      fun {σ' H' v u} J rv q => ⟨v, H', J.os, J.bare, J.base, J.hok, rv, q⟩
    cases fl with
    | ret u =>
      obtain ⟨v, σ', H', J, rv, q⟩ := hs
      exact fin J rv q
    | next =>
      obtain ⟨σ', H', J, q⟩ := hs
      exact fin (v := V.non) (u := Value.none) J rfl q
    | brk =>
      obtain ⟨_, _, _, q⟩ := hs
      exact q.elim
    | cont =>
      obtain ⟨_, _, _, q⟩ := hs
      exact q.elim
end DS
namespace DS
open PySem L2 PyProof.Rows StX
/-! ## def f(a, .., *v) -/
theorem run_star {P : Program} {w : World} {K : PySem.W.Frag} {mg : Str → Option Value} {base : Heap} {k n : Nat} {f : Addr} {x qual pv : Str} {params : Arguments} {body : List Stmt} {scope : Scope} {dvs : List V} {kws : List (Str × V)} {fd : FuncData} {N ps : List Str} {b : SS} {C : FEnv}
    (F : FunD K x qual params body scope dvs kws f fd) (S : FnScope N (ps ++ [pv]) scope) (hn : ps.length ≤ n) (hz : n ≤ 1000)
    (hdv : dvs = []) (hbd : ∀ (kV doc pm : Value) (an : Option Addr) (cdv ct : Value) (us rest : List Value), us.length = ps.length → rest.length = n - ps.length → bindArgs (PySem.W.fnOf x qual params body scope .none kV doc pm an cdv ct) ⟨us ++ rest, []⟩ = (newTuple rest >>= fun t => pure (ps.zip us ++ [(pv, t)])))
    (hb : ∀ (cdv : Value) (A : Around) (outer : List Env) (s : Shared) (H : Hp) (E : XK), Room k (A.deeper (envOfC qual scope s.heap.objs.size f cdv)) → A.guards = some [] → HSs (cxOf (L2.CX P w) P w K mg base N qual scope f cdv A outer s H E) C body b) :
    RunAt P w K mg base (k + 1) f n [] (fun ds _ st => DS.body N.length b C (ds.take ps.length ++ [.tup (ds.drop ps.length)]) st) := by
  intro A outer s H us ws vs zs Q E hr hgd e0 rv rz l1 l2 ⟨o, ds, es, st, wd, r1, r2, out⟩
  obtain ⟨oc, od, dV, kV, doc, pm, an, cdv, ct, osl, rfl, lk, hcd, hD, _⟩ := F.ex
  obtain rfl : dV = .none := by
    rcases hD with ⟨_, h⟩ | ⟨h, _⟩
    · exact h
    · exact absurd hdv h
  have hzs : zs = [] := List.length_eq_zero_iff.mp l2
  subst hzs
  cases rz
  show codeAny (model P w) A (.call (.ref f) ⟨us, []⟩) _ s
  have hN := S.pre
  have lN : ps.length + 1 ≤ N.length := by
    have := congrArg List.length hN
    rw [List.length_take, List.length_append, List.length_singleton] at this
    omega
  have eu : us = us.take ps.length ++ us.drop ps.length := (List.take_append_drop _ _).symm
  have lu : us.length = n := by rw [← rv.length]; exact l1
  have vtake : ∀ (i : Nat) {vs : List V} {us : List Value}, Vals vs us → Vals (vs.take i) (us.take i) := by
    intro i
    induction i with
    | zero => intro vs us _; exact .nil
    | succ i ih =>
      intro vs us h
      cases h with
      | nil => exact .nil
      | cons a b => exact .cons a (ih b)
  have vdrop : ∀ (i : Nat) {vs : List V} {us : List Value}, Vals vs us → Vals (vs.drop i) (us.drop i) := by
    intro i
    induction i with
    | zero => intro vs us h; exact h
    | succ i ih =>
      intro vs us h
      cases h with
      | nil => exact .nil
      | cons a b => exact ih b
  have q1 := vtake ps.length rv
  have q2 := vdrop ps.length rv
  have ht : (us.take ps.length).length = ps.length := by rw [List.length_take]; omega
  have hl2 : (us.drop ps.length).length ≤ sizeLine := by
    rw [List.length_drop]
    have := line_1000
    omega
  have hl3 : (vs.drop ps.length).length ≤ sizeLine := by rw [q2.length]; exact hl2
  have hfr : H s.heap.objs.size = none := e0.hok.fresh (Nat.le_refl _)
  refine run_bnd lk hcd S hr e0 (G := fun xs H2 => ∃ p, H p = none ∧ xs = vs.take ps.length ++ [V.ref p] ∧ H2 = upd H p (.tup (vs.drop ps.length))) (fun A' Ex Q' h => ?_) fun s2 H2 xs ⟨p, hp, ex, eH⟩ hr' => ?_
  · rw [eu, hbd _ _ _ _ _ _ (us.take ps.length) (us.drop ps.length) ht (by rw [List.length_drop, lu])]
    refine wpAny_bind (wpAny_newTuple (wpAny_pure ?_) hl2)
    have new : ObjOk P w (upd H s.heap.objs.size (.tup (vs.drop ps.length))) (s.heap.push ({ cls := .type "tuple", data := .seq (us.drop ps.length).toArray } : Obj)) s.heap.objs.size (.tup (vs.drop ps.length)) := ⟨hl3, us.drop ps.length, q2, ⟨_, Heap.get?_push_size _ rfl, rfl, _, rfl⟩⟩
    have un := un_laid (fs := frs outer) (s := s) (o := ({ cls := .type "tuple", data := .seq (us.drop ps.length).toArray } : Obj)) (u := .tup (vs.drop ps.length)) hfr
    have z := h _ _ (vs.take ps.length ++ [V.ref s.heap.objs.size]) (us.take ps.length ++ [Value.ref s.heap.objs.size]) (env0_laid e0 new) un rfl (fun e s' => cxUp outer s H _ _ E e s' un (fun b o q => Heap.get?_push_of_some _ q) rfl) (q1.append (.cons rfl .nil))
      (by rw [List.length_append, List.length_append, q1.length, ht] <;> rfl) ⟨_, hfr, rfl, rfl⟩
    rw [List.zip_append ht.symm] at z
    exact z
  · subst ex eH
    refine ⟨_, hb cdv A outer s2 (upd H p (.tup (vs.drop ps.length))) E hr' hgd, ?_⟩
    have w2 := put_wd wd hp (u := .tup (vs.drop ps.length))
    have x2 := put_ext wd hp (u := .tup (vs.drop ps.length))
    have rr : Reps K (o.put p (.tup (vs.drop ps.length))) (vs.take ps.length ++ [V.ref p]) (ds.take ps.length ++ [.tup (ds.drop ps.length)]) := ((r1.mono x2.sub).take _).app (.cons (.tup (SqT.of upd_same) ((r1.mono x2.sub).drop _)) .nil)
    have nN : (vs.take ps.length ++ [V.ref p]).length ≤ N.length := by
      rw [List.length_append, List.length_singleton, q1.length, ht]
      exact lN
    refine ⟨_, _, _, _, st, start_ok (P0 := ps ++ [pv]) w2 rr nN, ?_⟩
    have out : OutD K E _ _ (DS.body N.length b C (ds.take ps.length ++ [.tup (ds.drop ps.length)]) st) Q := OutD.later out w2 x2
    unfold DS.body at out
    cases e : b C ((ds.take ps.length ++ [D.tup (ds.drop ps.length)]).map Slot.val ++ List.replicate (N.length - (ds.take ps.length ++ [D.tup (ds.drop ps.length)]).length) Slot.un) st with
    | exc _ _ => rw [e] at out; exact OutX.def_ out
    | bad => rw [e] at out; exact out.elim
    | ok fl st1 =>
      rw [e] at out
      cases fl with
      | nx r => exact fun o' s' H' q u => out .non o' H' q.wd q.ext .non
      | rt d => exact fun v o' H' w' x' q => out v o' H' w' x' q
      | bk r => exact out.elim
      | ct r => exact out.elim
end DS
namespace DS
open PySem L2 PyProof.Rows
/-! ## texts -/
theorem Reps.strs {K : PySem.W.Frag} {o : Wo} : ∀ ys : List Str, Reps K o (ys.map V.str) (ys.map D.str)
  | [] => .nil
  | y :: r => .cons (.str y) (Reps.strs r)
def dSplit : D → D → Option D
  | .str a, .str b => if (b.length == 0) = false ∧ a.length + 2 ≤ sizeLine then some (.lst ((Txt.split a b).map .str)) else none
  | _, _ => none
section
variable {X : Cx} {C : FEnv} {o e : Expr} {so se : SE} {apos pos : Pos}
def rM1 (K : PySem.W.Frag) (g : D → D → Option D) : V → List V → Hp → VK → Prop := fun x xs H Q => ∃ y, xs = [y] ∧ rD2 K g x y H Q
theorem m_split : MtR X "str.split" (rM1 X.K dSplit) := fun pins s σ H x xs v us Q I rx rs ⟨y, hy, o, st, d, e, r, w, r1, r2, eg, k⟩ => by
  subst hy
  unfold dSplit at eg
  split at eg
  · split at eg
    · rename_i c
      cases eg
      cases r1; cases r2
      exact mt_split pins s σ H _ _ v us Q I rx rs ⟨_, _, rfl, rfl, c.1, c.2, fun p np => Ret.lst k w (Reps.strs _) np⟩
    · cases eg
  · cases eg
/-- the object of such a method is a text -/
def OnStr (g : D → D → Option D) : Prop := ∀ d e r, g d e = some r → ∃ a, d = .str a
theorem on_split : OnStr dSplit := fun d e r h => by
  unfold dSplit at h
  split at h
  · exact ⟨_, rfl⟩
  · cases h
/-- .. of a text: this stands fast before the argument is asked -/
def eBinS (g : D → D → Option D) (a b : SE) : SE := fun C r st => (a C r st).bind fun d st => match d with
  | .str x => (b C r st).bind fun e st => lift (g (.str x) e) st
  | _ => .bad
theorem h_m1 {id : String} {name : Str} {g : D → D → Option D} (hg : OnStr g) (slot : PySem.Slot "str" name id) (ty : typeOf (.builtin id) = pure (.type "method_descriptor")) (rule : MtR X id (rM1 X.K g)) (ho : HE X C o so) (he : HE X C e se)
    (hs : starEach [e] X.env = [(false, eval e X.env)]) (hbase : attributeBase o name X.env (eval o X.env) = eval o X.env) (hline : (apos.endLine == pos.line) = true) : HE X C (.Call (.Attribute o name apos) [e] [] pos) (eBinS g so se) :=
  pe_by (pe_m1 slot ty rule ho he hs hbase hline) fun s H Q ⟨o, r, st, w, l, h⟩ => by
    unfold eBinS at h
    refine ⟨o, r, st, w, l, OutR.b h fun d st1 e1 h x o1 H1 w1 x1 r1 => ?_⟩
    cases d with
    | str a =>
      cases r1
      refine ⟨⟨_, rfl⟩, o1, r, st1, w1, l.ext x1, (OutD.later h w1 x1).b fun e st2 e2 h y o2 H2 w2 x2 r2 => ?_⟩
      obtain ⟨z, e3, h⟩ := h.lift
      exact ⟨_, rfl, o2, st2, _, _, z, w2, .str _, r2, e3, fun v o3 H3 w3 x3 q => h v o3 H3 w3 (x2.trans w2 x3) q⟩
    | _ => exact h.elim
/-! ### f-strings -/
def dFmt : D → Option D
  | .str y => if y.length ≤ sizeLine then some (.str y) else none
  | .int i => if i.natAbs.log2 < 1920 then some (.str (toString i)) else none
  | _ => none
theorem h_fmt {a : Expr} {sa : SE} (ha : HE X C a sa) : HE X C (.FormattedValue a (-1) none pos) (eUn dFmt sa) :=
  pe_by (pe_fmt ha) fun s H Q ⟨o, r, st, w, l, h⟩ => by
    refine ⟨o, r, st, w, l, OutR.b h fun d st1 e1 h x o1 H1 w1 x1 r1 => ?_⟩
    unfold dFmt at h
    split at h
    · split at h
      · rename_i c
        cases r1
        exact .inl ⟨_, rfl, c, h _ o1 H1 w1 x1 (.str _)⟩
      · exact h.elim
    · split at h
      · rename_i c
        cases r1
        exact .inr ⟨_, rfl, c, h _ o1 H1 w1 x1 (.str _)⟩
      · exact h.elim
    · exact h.elim
def jsGo (C : FEnv) (r : REnv) : List SE → Str → Store → Res D
  | [], acc, st => .ok (.str acc) st
  | a :: as, acc, st => (a C r st).bind fun d st => match d with
    | .str y => if (acc ++ y).length ≤ sizeLine then jsGo C r as (acc ++ y) st else .bad
    | _ => .bad
def eJs (as : List SE) : SE := fun C r st => jsGo C r as Str.empty st
theorem rd_js {s : L2.St} {Q : VK} : ∀ (ss : List SE) (acc : Str) (H : Hp) (o : Wo) (r : REnv) (st : Store), Wd X.K o H st → LocOk X.K o s H r → OutD X.K (wx X) o H (jsGo C r ss acc st) Q → tJs (ss.map fun a => tD X.K (wx X) (a C)) acc s H fun out H1 => Q (.str out) H1
  | [], acc, H, o, r, st, w, l, h => h _ o H w (.refl o H) (.str _)
  | a :: as, acc, H, o, r, st, w, l, h => by
    show tD X.K (wx X) (a C) s H _
    refine ⟨o, r, st, w, l, OutR.b h fun d st1 e1 h x o1 H1 w1 x1 r1 => ?_⟩
    split at h
    · split at h
      · rename_i c
        cases r1
        exact ⟨_, rfl, c, rd_js as _ H1 o1 r st1 w1 (l.ext x1) (OutD.later h w1 x1)⟩
      · exact h.elim
    · exact h.elim
theorem h_js {es : List Expr} {ss : List SE} {v1 v2 : Expr} {rest : List Expr} (he : es = v1 :: v2 :: rest) (h : PJ X es (ss.map fun a => tD X.K (wx X) (a C))) : HE X C (.JoinedStr es pos) (eJs ss) := by
  subst he
  exact pe_by (pe_joined h) fun s H Q ⟨o, r, st, w, l, h⟩ => rd_js ss _ H o r st w l h
end
end DS
namespace DS
open PySem L2 PyProof.Rows
section
open PySem PySem.SeqAt GQ PySem.W
variable {prog : Program} {w : World} {A : Around} {E : Value → Shared → Prop} {s : Shared} {b C dx : Addr}
/-- an instance ends no comparison of a builtin value -/
theorem typeIs_plain {T : String} (hb : s.heap.get? b = some (instObj C dx)) (hs : Looks (model prog w) s.heap (isSubtype (.ref C) (.type T)) false) : Looks (model prog w) s.heap (isInstance (.ref b) (.type T)) false :=
  ((Looks.ld hb).andThen .now).andThen hs
theorem decl_none {name id : String} {Q : Option Value → Shared → Prop} (ne : Bool) (q : Q none s) : wpAny (model prog w) A (tryCompare .none (if ne then (cmpInfo .NotEq).2.1 else (cmpInfo .Eq).2.1) (.ref b)) Q E s := by
  cases ne
  · refine wpAny_tryCompare_declines (T := "NoneType") (typeIs_none s) F.slot_NoneType_eq (wpAny_call_entry F.slot_NoneType_eq (typeIs_none s) F.entry_NoneType_eq ?_ (F.args_NoneType_eq_2 _ _))
    unfold Builtin.«NoneType.__eq__»
    wp_walk
    exact ⟨_, rfl, rfl, q⟩
  · refine wpAny_tryCompare_declines (T := "NoneType") (typeIs_none s) F.slot_NoneType_ne (wpAny_call_entry F.slot_NoneType_ne (typeIs_none s) F.entry_NoneType_ne ?_ (F.args_NoneType_ne_2 _ _))
    unfold Builtin.«NoneType.__ne__»
    wp_walk
    exact ⟨_, rfl, rfl, q⟩

theorem decl_int {v : Value} {T : String} (hv : (∃ i t, v = .int i t ∧ T = "int") ∨ ∃ k, v = .bool k ∧ T = "bool") (hb : s.heap.get? b = some (instObj C dx)) {Q : Option Value → Shared → Prop} (ne : Bool) (q : Q none s) : wpAny (model prog w) A (tryCompare v (if ne then (cmpInfo .NotEq).2.1 else (cmpInfo .Eq).2.1) (.ref b)) Q E s := by
  rcases hv with ⟨i, t, rfl, _⟩ | ⟨k, rfl, _⟩
  · cases ne
    · refine wpAny_tryCompare_declines (T := "int") (typeIs_int s i t) F.slot_int_eq (wpAny_call_entry F.slot_int_eq (typeIs_int s i t) F.entry_int_eq ?_ (F.args_int_eq_2 _ _))
      unfold Builtin.«int.__eq__»
      wp_walk using wpAny_load hb
      exact ⟨_, rfl, rfl, q⟩
    · refine wpAny_tryCompare_declines (T := "int") (typeIs_int s i t) F.slot_int_ne (wpAny_call_entry F.slot_int_ne (typeIs_int s i t) F.entry_int_ne ?_ (F.args_int_ne_2 _ _))
      unfold Builtin.«int.__ne__»
      wp_walk using wpAny_load hb
      exact ⟨_, rfl, rfl, q⟩
  · cases ne
    · refine wpAny_tryCompare_declines (T := "bool") (PyProof.Rows.typeIs_bool s k) F.slot_bool_eq (wpAny_call_entry F.slot_bool_eq (PyProof.Rows.typeIs_bool s k) F.entry_int_eq ?_ (F.args_int_eq_2 _ _))
      unfold Builtin.«int.__eq__»
      wp_walk using wpAny_load hb
      exact ⟨_, rfl, rfl, q⟩
    · refine wpAny_tryCompare_declines (T := "bool") (PyProof.Rows.typeIs_bool s k) F.slot_bool_ne (wpAny_call_entry F.slot_bool_ne (PyProof.Rows.typeIs_bool s k) F.entry_int_ne ?_ (F.args_int_ne_2 _ _))
      unfold Builtin.«int.__ne__»
      wp_walk using wpAny_load hb
      exact ⟨_, rfl, rfl, q⟩
theorem decl_str {x : Str} {t : Tok} (hb : s.heap.get? b = some (instObj C dx)) {Q : Option Value → Shared → Prop} (ne : Bool) (q : Q none s) : wpAny (model prog w) A (tryCompare (.str x t) (if ne then (cmpInfo .NotEq).2.1 else (cmpInfo .Eq).2.1) (.ref b)) Q E s := by
  cases ne
  · refine wpAny_tryCompare_declines (T := "str") (typeIs_str s x t) F.slot_str_eq (wpAny_call_entry F.slot_str_eq (typeIs_str s x t) F.entry_str_eq ?_ (F.args_str_eq_2 _ _))
    unfold Builtin.«str.__eq__»
    wp_walk using wpAny_load hb
    exact ⟨_, rfl, rfl, q⟩
  · refine wpAny_tryCompare_declines (T := "str") (typeIs_str s x t) F.slot_str_ne (wpAny_call_entry F.slot_str_ne (typeIs_str s x t) F.entry_str_ne ?_ (F.args_str_ne_2 _ _))
    unfold Builtin.«str.__ne__»
    wp_walk using wpAny_load hb
    exact ⟨_, rfl, rfl, q⟩
theorem decl_tup {p : Addr} (hp : s.TypeIs (.ref p) "tuple") (hb : s.heap.get? b = some (instObj C dx)) (hs : Looks (model prog w) s.heap (isSubtype (.ref C) (.type "tuple")) false) {Q : Option Value → Shared → Prop} (ne : Bool) (q : Q none s) : wpAny (model prog w) A (tryCompare (.ref p) (if ne then (cmpInfo .NotEq).2.1 else (cmpInfo .Eq).2.1) (.ref b)) Q E s := by
  have hi := typeIs_plain hb hs
  obtain ⟨hh, g, d, tt, os⟩ := s
  cases ne
  · refine wpAny_tryCompare_declines (T := "tuple") hp F.slot_tuple_eq (wpAny_call_entry F.slot_tuple_eq hp F.entry_tuple_eq ?_ (F.args_tuple_eq_2 _ _))
    unfold Builtin.«tuple.__eq__»
    wp_walk using hi.at
    exact ⟨_, rfl, rfl, q⟩
  · refine wpAny_tryCompare_declines (T := "tuple") hp F.slot_tuple_ne (wpAny_call_entry F.slot_tuple_ne hp F.entry_tuple_ne ?_ (F.args_tuple_ne_2 _ _))
    unfold Builtin.«tuple.__ne__»
    wp_walk using hi.at
    exact ⟨_, rfl, rfl, q⟩
theorem decl_lst {p : Addr} (hp : s.TypeIs (.ref p) "list") (hb : s.heap.get? b = some (instObj C dx)) (hs : Looks (model prog w) s.heap (isSubtype (.ref C) (.type "list")) false) {Q : Option Value → Shared → Prop} (ne : Bool) (q : Q none s) : wpAny (model prog w) A (tryCompare (.ref p) (if ne then (cmpInfo .NotEq).2.1 else (cmpInfo .Eq).2.1) (.ref b)) Q E s := by
  have hi := typeIs_plain hb hs
  obtain ⟨hh, g, d, tt, os⟩ := s
  cases ne
  · refine wpAny_tryCompare_declines (T := "list") hp F.slot_list_eq (wpAny_call_entry F.slot_list_eq hp F.entry_list_eq ?_ (F.args_list_eq_2 _ _))
    unfold Builtin.«list.__eq__»
    wp_walk using hi.at
    exact ⟨_, rfl, rfl, q⟩
  · refine wpAny_tryCompare_declines (T := "list") hp F.slot_list_ne (wpAny_call_entry F.slot_list_ne hp F.entry_list_ne ?_ (F.args_list_ne_2 _ _))
    unfold Builtin.«list.__ne__»
    wp_walk using hi.at
    exact ⟨_, rfl, rfl, q⟩
theorem decl_dict {p : Addr} (hp : s.TypeIs (.ref p) "dict") (hb : s.heap.get? b = some (instObj C dx)) (hs : Looks (model prog w) s.heap (isSubtype (.ref C) (.type "dict")) false) {Q : Option Value → Shared → Prop} (ne : Bool) (q : Q none s) : wpAny (model prog w) A (tryCompare (.ref p) (if ne then (cmpInfo .NotEq).2.1 else (cmpInfo .Eq).2.1) (.ref b)) Q E s := by
  have hi := typeIs_plain hb hs
  obtain ⟨hh, g, d, tt, os⟩ := s
  cases ne
  · refine wpAny_tryCompare_declines (T := "dict") hp F.slot_dict_eq (wpAny_call_entry F.slot_dict_eq hp F.entry_dict_eq ?_ (F.args_dict_eq_2 _ _))
    unfold Builtin.«dict.__eq__»
    wp_walk using hi.at
    exact ⟨_, rfl, rfl, q⟩
  · refine wpAny_tryCompare_declines (T := "dict") hp F.slot_dict_ne (wpAny_call_entry F.slot_dict_ne hp F.entry_dict_ne ?_ (F.args_dict_ne_2 _ _))
    unfold Builtin.«dict.__ne__»
    wp_walk using hi.at
    exact ⟨_, rfl, rfl, q⟩
end
section
variable {prog : Program} {w : World} {A : Around} {E : Value → Shared → Prop} {s : Shared} {K : PySem.W.Frag} {x C f : Addr} {ox : Obj} {od : Option Obj} {b tb : Value}
open PySem.W in
theorem try_ne {Q : Value → Shared → Prop} (hu : A.units + 1 < cLine) (X : K.In s.heap) (I : InstAt s.heap x ox C od)
    (hne : findIn K (.ref C) "__ne__" = some (some (.builtin "object.__ne__"))) (hm : mroIn K C (.type "object") = some true) (hs : findIn K (.ref C) "__eq__" = some (some (.ref f))) (hf : isFn K (.ref f) = true)
    (h : wpAny (model prog w) A.in1 (call (.ref f) [.ref x, b]) (fun v s' => ∃ k, v = .bool k ∧ Q (.bool (!k)) s') E s) : wpAny (model prog w) A (tryCompare (.ref x) (cmpInfo .NotEq).2.1 b) (fun r s' => ∃ v, r = some v ∧ Q v s') E s := by
  unfold tryCompare
  simp only [callSpecialIfBound?, bindSpecialIfBound?]
  have cl : wpAny (model prog w) A (call (.builtin "object.__ne__") [.ref x, b]) (fun v s' => v ≠ .notImplemented ∧ Q v s') E s := by
    refine wpAny_call (codeAny_call_builtin PySem.F.cmp_object.ne.plain PySem.F.cmpEntry_ne (check_slot (i := "object.__ne__") (owner := "object") (n := "__ne__") PySem.F.cmpKind_ne PySem.F.cmpSplit_ne (I.type.andThen (looks_mroIn X hm)) (PySem.F.cmpArgs_ne _ _) ?_))
    unfold Builtin.«object.__ne__»
    refine wpAny_bind (m := slotArgs "__ne__" 1 _) (wpAny_pure ?_)
    refine wpAny_bind (m := cRoomFor _ _) (wpAny_cRoomFor hu ?_)
    refine wpAny_bind (m := callSpecialIfBound? (.ref x) (Str.ofString "__eq__") _) (ifBound_K X I hs hf (wpAny_mono h (fun r s' hq => ?_) fun _ _ y => y))
    obtain ⟨k, rfl, hq⟩ := hq
    refine wpAny_bind (m := truthy (.bool _)) (wpAny_truthy_bool ?_)
    exact wpAny_pure ⟨fun z => (nomatch z), hq⟩
  refine wpAny_bind (wpAny_holding (wpAny_bind (wpAny_bind (wpAny_bind (I.type.here ((looks_findIn X hne).here ?_))))))
  refine wpAny_bind (wpAny_askSetting (wpAny_ite ?_))
  have bnd : ∀ self, bindSpecial (.builtin "object.__ne__") self = pure (.builtin "object.__ne__", [self]) := PySem.F.cmp_object.ne.bind
  have fin : wpAny (model prog w) A (call (.builtin "object.__ne__") ([.ref x] ++ [b]) >>= fun v => pure (some v)) (fun r s' => wpAny (model prog w) A (match r with
    | some .notImplemented | none => pure none
    | some v => pure (some v)) (fun r s' => ∃ v, r = some v ∧ Q v s') E s') E s := wpAny_bind (wpAny_mono cl (fun v s' hv => wpAny_pure (by
      obtain ⟨h1, h2⟩ := hv
      cases v <;> first | exact absurd rfl h1 | exact wpAny_pure ⟨_, rfl, h2⟩)) fun _ _ z => z)
  split
  · exact wpAny_bind ((Looks.of_pure (bnd _)).here (wpAny_pure (by exact fin)))
  · exact wpAny_tryCatch (wpAny_bind ((Looks.of_pure (bnd _)).here (wpAny_pure (by exact fin))))
theorem oneThing_right (op : CmpOp) (v : Value) (x : Addr) : oneThing? op v (.ref x) = none := by cases v <;> rfl
open PySem.W in
/-- v of a builtin type that declines, compared with x: x's method answers -/
theorem cmp_back {op : CmpOp} {T : String} {v : Value} {Q : Value → Shared → Prop} (hu : A.units < cLine) (X : K.In s.heap) (I : InstAt s.heap x ox C od) (hb : Looks (model prog w) s.heap (typeOf v) (.type T)) (hsub : subIn K (.ref C) (.type T) = some false)
    (one : ∀ Q' : Option Value → Shared → Prop, Q' none s → wpAny (model prog w) A (tryCompare v (cmpInfo op).2.1 (.ref x)) Q' E s)
    (two : wpAny (model prog w) A (tryCompare (.ref x) (cmpInfo op).2.2 v) (fun r s' => ∃ v, r = some v ∧ Q v s') E s) : wpAny (model prog w) A (richCompare op v (.ref x)) Q E s := by
  unfold richCompare
  simp only [oneThing_right]
  refine wpAny_holding (wpAny_bind (wpAny_cRoomFor hu ?_))
  refine wpAny_bind (hb.here (wpAny_bind (I.type.here ?_)))
  have ne : (Value.type T != Value.ref C) = true := rfl
  rw [if_pos ne]
  refine wpAny_bind ((looks_subIn X hsub).here ?_)
  simp only [Bool.false_eq_true, if_false, Bool.not_false, if_true]
  refine wpAny_bind (one _ ?_)
  refine wpAny_bind (wpAny_mono two (fun r s' z => ?_) fun _ _ e => e)
  obtain ⟨v, rfl, hq⟩ := z
  exact wpAny_pure hq
open PySem.W in
theorem eq_back {T : String} {v : Value} {Q : Value → Shared → Prop} (hu : A.units < cLine) (X : K.In s.heap) (I : InstAt s.heap x ox C od) (hb : Looks (model prog w) s.heap (typeOf v) (.type T)) (hsub : subIn K (.ref C) (.type T) = some false)
    (one : ∀ Q' : Option Value → Shared → Prop, Q' none s → wpAny (model prog w) A (tryCompare v (cmpInfo .Eq).2.1 (.ref x)) Q' E s)
    (hs : findIn K (.ref C) "__eq__" = some (some (.ref f))) (hf : isFn K (.ref f) = true)
    (h : wpAny (model prog w) A (call (.ref f) [.ref x, v]) (PySem.W.CmpBack Q) E s) : wpAny (model prog w) A (compareOp .Eq v (.ref x)) Q E s := by
  refine cmp_ofEq (cmp_back (op := .Eq) hu X I hb hsub one ?_)
  unfold tryCompare
  refine wpAny_bind (ifBound_K X I hs hf (wpAny_mono h (fun v s' hv => ?_) fun _ _ e => e))
  cases v <;> first | exact hv.elim | exact wpAny_pure ⟨_, rfl, hv⟩
open PySem.W in
theorem ne_back {T : String} {v : Value} {Q : Value → Shared → Prop} (hu : A.units + 1 < cLine) (X : K.In s.heap) (I : InstAt s.heap x ox C od) (hb : Looks (model prog w) s.heap (typeOf v) (.type T)) (hsub : subIn K (.ref C) (.type T) = some false)
    (one : ∀ Q' : Option Value → Shared → Prop, Q' none s → wpAny (model prog w) A (tryCompare v (cmpInfo .NotEq).2.1 (.ref x)) Q' E s)
    (hne : findIn K (.ref C) "__ne__" = some (some (.builtin "object.__ne__"))) (hm : mroIn K C (.type "object") = some true) (hs : findIn K (.ref C) "__eq__" = some (some (.ref f))) (hf : isFn K (.ref f) = true)
    (h : wpAny (model prog w) A.in1 (call (.ref f) [.ref x, v]) (fun v s' => ∃ k, v = .bool k ∧ Q (.bool (!k)) s') E s) : wpAny (model prog w) A (compareOp .NotEq v (.ref x)) Q E s :=
  cmp_ofNotEq (cmp_back (op := .NotEq) (Nat.lt_of_succ_lt hu) X I hb hsub one (try_ne hu X I hne hm hs hf h))
end
section
open PySem PySem.SeqAt GQ
open MeetsSeq MeetsSeq2 MeetsSeq3 SeqRoads2
variable {prog : Program} {w : World} {A : Around} {R : Result → Shared → Prop} {E : Value → Shared → Prop}
theorem zip_split {α β : Type} {ys : List α} {xs : List β} {y : α} {x : β} {r : List (α × β)} (h : ys.zip xs = (y, x) :: r) : ∃ ys' xs', ys = y :: ys' ∧ xs = x :: xs' ∧ r = ys'.zip xs' := by
  cases ys with
  | nil => simp at h
  | cons a ys =>
    cases xs with
    | nil => simp at h
    | cons b xs =>
      simp at h
      obtain ⟨⟨rfl, rfl⟩, rfl⟩ := h
      exact ⟨_, _, rfl, rfl, rfl⟩
theorem zip_none {α β : Type} {ys : List α} {xs : List β} (h : ys.zip xs = []) : ys = [] ∨ xs = [] := by
  cases ys with
  | nil => exact .inl rfl
  | cons a ys =>
    cases xs with
    | nil => exact .inr rfl
    | cons b xs => simp at h
def TupT (prog : Program) (w : World) (A : Around) (E : Value → Shared → Prop) (Q : Bool → Shared → Prop) (I : List Value → List Value → Shared → Prop) : Prop :=
  ∀ y ys x xs s, I (y :: ys) (x :: xs) s → wpAny (model prog w) A (eqBool y x) (fun r s' => (r = true ∧ I ys xs s') ∨ (r = false ∧ Q false s')) E s
theorem tuple_eqB (l b : Addr) (items items2 : Array Value) (n n2 : Nat) (dd dd2 : Option Addr) (sl sl2 : Array (Option Value)) (I : List Value → List Value → Shared → Prop)
    (turn : TupT prog w A.in1 (fun e s' => R (.error e) s') (fun k s' => R (.ok (.ret (.bool k))) s') I)
    (fin : ∀ ys xs s, ys = [] ∨ xs = [] → I ys xs s → R (.ok (.ret (.bool (ys.length == xs.length)))) s) {s : Shared} (hl1 : s.heap.get? l = some { cls := .type "tuple", dict := dd, data := .seq items n, slots := sl }) (hb1 : s.heap.get? b = some { cls := .type "tuple", dict := dd2, data := .seq items2 n2, slots := sl2 }) (h : I items.toList items2.toList s) :
    wpAny (model prog w) A.in1 (Builtin.«tuple.__eq__» ⟨[.ref l, .ref b], []⟩) (FinOf prog w A R) (fun e s' => R (.error e) s') s := by
  have f2 := AutoSeq1.sub_tuple_tuple
  have h0 := h
  obtain ⟨hp, g, d, tk, os⟩ := s
  wp_walk using AutoSeq1.wpAny_loadPart' hl1, AutoSeq1.wpAny_loadPart' hb1, wpAny_forIn_list _ (fun rest b s' => b.1 = none ∧ ∃ ys xs, rest = ys.zip xs ∧ items.size + xs.length = items2.size + ys.length ∧ I ys xs s') _
  case turn =>
    rintro ⟨y, x⟩ rest b s' ⟨hb', ys, xs, hz, hi, hI⟩
    obtain ⟨ys, xs, rfl, rfl, rfl⟩ := zip_split hz.symm
    refine wpAny_bind (wpAny_mono (turn y ys x xs s' hI) (fun r s2 q2 => ?_) fun _ _ x => x)
    rcases q2 with ⟨rfl, q2⟩ | ⟨rfl, q2⟩
    · wp_walk
      simp only [List.length_cons] at hi
      exact ⟨rfl, ys, xs, rfl, by omega, q2⟩
    · wp_walk
      exact q2
  case fin =>
    rintro ⟨b1, b2⟩ s' ⟨hb', ys, xs, hz, hi, hI⟩
    simp only at hb'
    subst hb'
    have hR := fin ys xs s' (zip_none hz.symm) hI
    have e : (ys.length == xs.length) = (items.size == items2.size) := by
      rw [Bool.eq_iff_iff]
      simp only [beq_iff_eq]
      omega
    rw [e] at hR
    wp_walk
    exact hR
  case h =>
    exact ⟨rfl, items.toList, items2.toList, rfl, by simp; omega, h0⟩
theorem tuple_neB (l b : Addr) (items items2 : Array Value) (n n2 : Nat) (dd dd2 : Option Addr) (sl sl2 : Array (Option Value)) (I : List Value → List Value → Shared → Prop)
    (turn : TupT prog w A.in1 (fun e s' => R (.error e) s') (fun k s' => R (.ok (.ret (.bool (!k)))) s') I)
    (fin : ∀ ys xs s, ys = [] ∨ xs = [] → I ys xs s → R (.ok (.ret (.bool (!(ys.length == xs.length))))) s) {s : Shared} (hl1 : s.heap.get? l = some { cls := .type "tuple", dict := dd, data := .seq items n, slots := sl }) (hb1 : s.heap.get? b = some { cls := .type "tuple", dict := dd2, data := .seq items2 n2, slots := sl2 }) (h : I items.toList items2.toList s) :
    wpAny (model prog w) A.in1 (Builtin.«tuple.__ne__» ⟨[.ref l, .ref b], []⟩) (FinOf prog w A R) (fun e s' => R (.error e) s') s := by
  have f2 := AutoSeq1.sub_tuple_tuple
  have h0 := h
  obtain ⟨hp, g, d, tk, os⟩ := s
  wp_walk using AutoSeq1.wpAny_loadPart' hl1, AutoSeq1.wpAny_loadPart' hb1, wpAny_forIn_list _ (fun rest b s' => b.1 = none ∧ ∃ ys xs, rest = ys.zip xs ∧ items.size + xs.length = items2.size + ys.length ∧ I ys xs s') _
  case turn =>
    rintro ⟨y, x⟩ rest b s' ⟨hb', ys, xs, hz, hi, hI⟩
    obtain ⟨ys, xs, rfl, rfl, rfl⟩ := zip_split hz.symm
    refine wpAny_bind (wpAny_mono (turn y ys x xs s' hI) (fun r s2 q2 => ?_) fun _ _ x => x)
    rcases q2 with ⟨rfl, q2⟩ | ⟨rfl, q2⟩
    · wp_walk
      simp only [List.length_cons] at hi
      exact ⟨rfl, ys, xs, rfl, by omega, q2⟩
    · wp_walk
      exact q2
  case fin =>
    rintro ⟨b1, b2⟩ s' ⟨hb', ys, xs, hz, hi, hI⟩
    simp only at hb'
    subst hb'
    have hR := fin ys xs s' (zip_none hz.symm) hI
    have e : (ys.length == xs.length) = (items.size == items2.size) := by
      rw [Bool.eq_iff_iff]
      simp only [beq_iff_eq]
      omega
    rw [e] at hR
    wp_walk
    exact hR
  case h =>
    exact ⟨rfl, items.toList, items2.toList, rfl, by simp; omega, h0⟩
/-- two tuples compared, item by item, up to the first two that differ -/
theorem tup_cmp (neg : Bool) {l b : Addr} {items items2 : Array Value} {Q : Bool → Shared → Prop} {s : Shared} (hu : A.units < cLine) (I : List Value → List Value → Shared → Prop) (turn : TupT prog w A.in1 E (fun k s' => Q (k != neg) s') I)
    (fin : ∀ ys xs s, ys = [] ∨ xs = [] → I ys xs s → Q ((ys.length == xs.length) != neg) s) (hl : s.heap.IsTuple l items) (hb : s.heap.IsTuple b items2) (h : I items.toList items2.toList s) :
    wpAny (model prog w) A (compareOp (if neg then .NotEq else .Eq) (.ref l) (.ref b)) (fun v s' => ∃ k, v = .bool k ∧ Q k s') E s := by
  obtain ⟨⟨cls, dd, data, sl⟩, ho, hc, n, hd⟩ := id hl
  obtain ⟨⟨cls2, dd2, data2, sl2⟩, ho2, hc2, n2, hd2⟩ := id hb
  simp only at hc hd hc2 hd2
  subst hc hd hc2 hd2
  cases neg
  · refine PySem.W.cmp_ofEq (wpAny_richCompare_same_room (op := .Eq) ⟨_, ho, rfl⟩ ⟨_, ho2, rfl⟩ F.slot_tuple_eq (call_here F.slot_tuple_eq ⟨_, ho, rfl⟩ F.entry_tuple_eq (F.args_tuple_eq_2 _ _) ?_) hu)
    refine tuple_eqB (R := wants (fun v s' => v ≠ .notImplemented ∧ ∃ k, v = .bool k ∧ Q k s') E) l b items items2 n n2 dd dd2 sl sl2 I ?_ ?_ ho ho2 h
    · exact fun y ys x xs s hI => wpAny_mono (turn y ys x xs s hI) (fun r s' q => q.elim .inl fun ⟨a, q⟩ => .inr ⟨a, (fun z => nomatch z), _, rfl, by simpa using q⟩) fun _ _ e => e
    · exact fun ys xs s' hz q => ⟨(fun x => nomatch x), _, rfl, by simpa using fin ys xs s' hz q⟩
  · refine PySem.W.cmp_ofNotEq (wpAny_richCompare_same_room (op := .NotEq) ⟨_, ho, rfl⟩ ⟨_, ho2, rfl⟩ F.slot_tuple_ne (call_here F.slot_tuple_ne ⟨_, ho, rfl⟩ F.entry_tuple_ne (F.args_tuple_ne_2 _ _) ?_) hu)
    refine tuple_neB (R := wants (fun v s' => v ≠ .notImplemented ∧ ∃ k, v = .bool k ∧ Q k s') E) l b items items2 n n2 dd dd2 sl sl2 I ?_ ?_ ho ho2 h
    · exact fun y ys x xs s hI => wpAny_mono (turn y ys x xs s hI) (fun r s' q => q.elim .inl fun ⟨a, q⟩ => .inr ⟨a, (fun z => nomatch z), _, rfl, by simpa using q⟩) fun _ _ e => e
    · exact fun ys xs s' hz q => ⟨(fun x => nomatch x), _, rfl, by simpa using fin ys xs s' hz q⟩
end
end DS
namespace DS
open PySem L2 PyProof.Rows
/-! ## x in a list of own objects -/
section
open PySem PySem.SeqAt GQ
open MeetsSeq MeetsSeq2 MeetsSeq3 SeqRoads2
variable {prog : Program} {w : World} {A : Around} {R : Result → Shared → Prop} {E : Value → Shared → Prop}
/-- at each turn the list is read anew -/
def ListT (prog : Program) (w : World) (A : Around) (E : Value → Shared → Prop) (l : Addr) (x : Value) (N : Nat) (I : Nat → Shared → Prop) (Q : Shared → Prop) : Prop :=
  ∀ i s, I i s → ∃ (items : Array Value) (n : Nat) (dd : Option Addr) (sl : Array (Option Value)), s.heap.get? l = some { cls := .type "list", dict := dd, data := .seq items n, slots := sl } ∧ items.size = N ∧
    ∀ h : i < items.size, wpAny (model prog w) A (eqBool items[i] x) (fun r s' => (r = true ∧ Q s') ∨ (r = false ∧ I (i + 1) s')) E s
theorem contains_loopG (l : Addr) (x : Value) (N : Nat) (I : Nat → Shared → Prop) (turn : ListT prog w A.in1 (fun e s' => R (.error e) s') l x N I (fun s' => R (.ok (.ret (.bool true))) s'))
    (fin : ∀ s, I N s → R (.ok (.ret (.bool false))) s) (k : Nat) : ∀ i : Nat, N - i = k → i ≤ N → ∀ s, I i s →
      wpAny (model prog w) A.in1 (Builtin.«list.__contains__.loop» ⟨[.ref l, x, rawInt i], []⟩) (FinOf prog w A R) (fun e s' => R (.error e) s') s := by
  induction k with
  | zero =>
    intro i hk hi s h
    obtain ⟨items, n, dd, sl, hl1, hs1, _⟩ := turn _ _ h
    have hi' : i = N := by omega
    have hR : R (.ok (.ret (.bool false))) s := fin s (hi' ▸ h)
    obtain ⟨hp, g, d, tk, os⟩ := s
    wp_walk using AutoSeq1.wpAny_loadPart' hl1
    have hi1 : items[((i : Nat) : Int).toNat]? = none := by simp; omega
    rw [hi1]
    wp_walk
    exact hR
  | succ k ih =>
    intro i hk hi s h
    obtain ⟨items, n, dd, sl, hl1, hs1, ht⟩ := turn _ _ h
    have hlt : i < items.size := by omega
    have ht := ht hlt
    obtain ⟨hp, g, d, tk, os⟩ := s
    wp_walk using AutoSeq1.wpAny_loadPart' hl1
    have hi1 : items[((i : Nat) : Int).toNat]? = some items[i] := by simp [hlt]
    have hc : ((i : Int) + 1) = ((i + 1 : Nat) : Int) := by omega
    rw [hi1]
    refine wpAny_bind (wpAny_mono ht (fun r s2 h2 => ?_) fun _ _ x => x)
    rcases h2 with ⟨rfl, h2⟩ | ⟨rfl, h2⟩
    · wp_walk
      exact h2
    · have hrec := ih (i + 1) (by omega) (by omega) s2 h2
      obtain ⟨hp2, g2, d2, tk2, os2⟩ := s2
      wp_walk
      rw [hc]
      exact ⟨plainId_quiet plain_contains_loop _, codeAny_builtin entry_contains_loop (by
        rw [Around.under_plainId plain_contains_loop _]
        exact hrec)⟩
theorem list_containsG (l : Addr) (x : Value) (N : Nat) (I : Nat → Shared → Prop) (turn : ListT prog w A.in1 (fun e s' => R (.error e) s') l x N I (fun s' => R (.ok (.ret (.bool true))) s'))
    (fin : ∀ s, I N s → R (.ok (.ret (.bool false))) s) {s : Shared} (hI : I 0 s) :
    wpAny (model prog w) A.in1 (Builtin.«list.__contains__» ⟨[.ref l, x], []⟩) (FinOf prog w A R) (fun e s' => R (.error e) s') s := by
  have hrec := contains_loopG (A := A) (R := R) l x N I turn fin _ 0 rfl (Nat.zero_le _) s hI
  obtain ⟨hp, g, d, tk, os⟩ := s
  wp_walk
  exact ⟨plainId_quiet plain_contains_loop _, codeAny_builtin entry_contains_loop (by
    rw [Around.under_plainId plain_contains_loop _]
    exact hrec)⟩
theorem in_listG {l : Addr} {x : Value} {Q : Bool → Shared → Prop} (N : Nat) (I : Nat → Shared → Prop) (turn : ListT prog w A.in1 E l x N I (fun s' => Q true s'))
    (fin : ∀ s, I N s → Q false s) {s : Shared} (hI : I 0 s) : wpAny (model prog w) A (contains (.ref l) x) Q E s := by
  obtain ⟨items, n, dd, sl, ho, _, _⟩ := turn _ _ hI
  refine wpAny_contains_slot ⟨_, ho, rfl⟩ F.slot_list_contains ?_
  refine wpAny_mono (call_here (Q := fun v s' => ∃ b, v = .bool b ∧ Q b s') F.slot_list_contains ⟨_, ho, rfl⟩ F.entry_list_contains (F.args_list_contains_2 _ _) (list_containsG (R := wants (fun v s' => ∃ b, v = .bool b ∧ Q b s') E) l x N I ?_ ?_ hI)) (fun v s' hv => ?_) fun _ _ e => e
  · intro i s hI
    obtain ⟨items, n, dd, sl, ho, hs, ht⟩ := turn i s hI
    exact ⟨items, n, dd, sl, ho, hs, fun h => wpAny_mono (ht h) (fun r s' q => q.elim (fun q => .inl ⟨q.1, _, rfl, q.2⟩) .inr) fun _ _ e => e⟩
  · exact fun s hI => ⟨_, rfl, fin s hI⟩
  · obtain ⟨b, rfl, q⟩ := hv
    exact wpAny_truthy_bool q
end
end DS
namespace DS
open PySem L2 PyProof.Rows
/-! ## own operators, bare classes, functions of a class -/
abbrev G2 := FEnv → D → D → Store → Res D
def eBinC (g : G2) (a b : SE) : SE := fun C r st => (a C r st).bind fun d st => (b C r st).bind fun e st => g C d e st
def ownNm : D → Option Str
  | .obj c _ _ => some c
  | _ => none
/-- the right one does not come first -/
def rightOk (anc : List (Str × List Str)) (c : Str) (e : D) : Bool := match e with
  | .obj c' _ _ => decide (c' = c) || (match anc.lookup c' with
    | some l => !(l.contains c)
    | none => false)
  | e => (tyName e).isSome
def tellB (neg : Bool) (v : D) (st : Store) : Res D := match v with
  | .bl b => .ok (.bl (b != neg)) st
  | _ => .bad
def oMul (tab : List (Str × Str)) (g : D → D → Option D) : G2 := fun C d e st => match g d e with
  | some v => .ok v st
  | none => match (ownNm d).bind fun c => tab.lookup c with
    | none => .bad
    | some f => if (tyName e).isSome = true then C f [d, e] st else .bad
def oAdd (tab : List (Str × Str)) (g : D → D → Option D) : G2 := fun C d e st => match g d e with
  | some v => .ok v st
  | none => match (ownNm d).bind fun c => (tab.lookup c).map fun f => (c, f) with
    | none => .bad
    | some (c, f) => if ownNm e = some c then C f [d, e] st else .bad
/-- the two are not one object -/
def Apart (d e : D) : Prop := ∀ (X : Cx) (pins : List (Addr × Obj)) (σ : L2.St) (H : Hp) (s : Shared) (o : Wo) (st : Store) (v : V), Inv X pins σ H s → Wd X.K o H st → Rep X.K o v d → Rep X.K o v e → False
/-- x is of another class, none under c -/
def clsDiff (anc : List (Str × List Str)) (c : Str) (x : D) : Bool := match x with
  | .obj c' _ _ => (match anc.lookup c' with
    | some l => !(l.contains c)
    | none => false)
  | _ => false
open Classical in
/-- two tuples of own objects: up to the first two that differ -/
noncomputable def eqTs (anc : List (Str × List Str)) (tab : List (Str × Str)) (C : FEnv) : List D → List D → Store → Res D
  | y :: ys, x :: xs, st => match (ownNm y).bind fun c => (tab.lookup c).map fun f => (c, f) with
    | none => .bad
    | some (c, f) => if rightOk anc c x = true then (match C f [y, x] st with
      | .ok (.bl true) st' => if st' = st then eqTs anc tab C ys xs st else .bad
      | .ok (.bl false) st' => if Apart y x ∨ clsDiff anc c x = true then .ok (.bl false) st' else .bad
      | _ => .bad) else .bad
  | ys, xs, st => .ok (.bl (ys.length == xs.length)) st
/-- the left one is no own object -/
noncomputable def oEqR (neg : Bool) (anc : List (Str × List Str)) (tab : List (Str × Str)) : G2 := fun C d e st => match d, e with
  | .tup ys, .tup xs => (eqTs anc tab C ys xs st).bind fun v st => tellB neg v st
  | d, e => match (ownNm e).bind fun c => tab.lookup c with
    | none => .bad
    | some f => if (tyName d).isSome = true then (C f [e, d] st).bind fun v st => tellB neg v st else .bad
noncomputable def oEq (neg : Bool) (anc : List (Str × List Str)) (tab : List (Str × Str)) (g : D → D → Option D) : G2 := fun C d e st => match g d e with
  | some v => .ok v st
  | none => match ownNm d with
    | none => oEqR neg anc tab C d e st
    | some c => match tab.lookup c with
      | none => .bad
      | some f => if rightOk anc c e = true then (C f [d, e] st).bind fun v st => tellB neg v st else .bad
open Classical in
/-- x in a tuple of own objects: the first that is equal -/
noncomputable def inT (anc : List (Str × List Str)) (tab : List (Str × Str)) (C : FEnv) (x : D) : List D → Store → Res D
  | [], st => .ok (.bl false) st
  | y :: ys, st => match (ownNm y).bind fun c => (tab.lookup c).map fun f => (c, f) with
    | none => .bad
    | some (c, f) => if rightOk anc c x = true then (match C f [y, x] st with
      | .ok (.bl true) st' => if st' = st then .ok (.bl true) st else .bad
      | .ok (.bl false) st' => if Apart y x ∨ clsDiff anc c x = true then inT anc tab C x ys st' else .bad
      | _ => .bad) else .bad
noncomputable def oIn (neg : Bool) (anc : List (Str × List Str)) (tabE : List (Str × Str)) (tab : List (Str × Str)) (g : D → D → Option D) : G2 := fun C d e st => match g d e with
  | some v => .ok v st
  | none => match e with
    | .tup ys => (inT anc tabE C d ys st).bind fun v st => tellB neg v st
    | .lst ys => (inT anc tabE C d ys st).bind fun v st => tellB neg v st
    | e => match (ownNm e).bind fun c => tab.lookup c with
      | none => .bad
      | some f => (C f [e, d] st).bind fun v st => tellB neg v st
def rDC (K : PySem.W.Frag) (E : XK) (C : FEnv) (g : G2) : R2 := fun x y H Q => ∃ o st d e, Wd K o H st ∧ Rep K o x d ∧ Rep K o y e ∧ OutD K E o H (g C d e st) Q
section
variable {X : Cx} {C : FEnv} {a b : Expr} {sa sb : SE} {pos p : Pos} {g : G2}
theorem rd_binC {K : PySem.W.Frag} {E : XK} {s : L2.St} {H : Hp} {Q : VK} (h : tD K E (eBinC g sa sb C) s H Q) : tOp (rDC K E C g) (tD K E (sa C)) (tD K E (sb C)) s H Q := by
  obtain ⟨o, r, st, w, l, h⟩ := h
  exact ⟨o, r, st, w, l, h.b fun d st1 e1 h x o1 H1 w1 x1 r1 => ⟨o1, r, st1, w1, l.ext x1, (OutD.later h w1 x1).b fun e st2 e2 h y o2 H2 w2 x2 r2 => ⟨o2, st2, d, e, w2, r1.mono x2.sub, r2, OutD.later h w2 x2⟩⟩⟩
theorem h_binC {op : Operator} (ho : OpR X (binaryOp op) (rDC X.K (wx X) C g)) (ha : HE X C a sa) (hb : HE X C b sb) : HE X C (.BinOp a op b pos) (eBinC g sa sb) := pe_by (pe_op ho ha hb) fun s H Q h => rd_binC h
theorem h_cmpC {op : CmpOp} (ho : OpR X (compareOp op) (rDC X.K (wx X) C g)) (ha : HE X C a sa) (hb : HE X C b sb) (hm : behindInMarks op b = false) : HE X C (.Compare a [op] [b] pos) (eBinC g sa sb) := pe_by (pe_cmpR ho ha hb hm) fun s H Q h => rd_binC h
/-- what comes is a truth -/
def BoolishC (g : G2) : Prop := ∀ C d e st r st', g C d e st = .ok r st' → ∃ k, r = .bl k
theorem h_tcmpC {op : CmpOp} (hg : BoolishC g) (ho : OpR X (compareOp op) (rDC X.K (wx X) C g)) (ha : HE X C a sa) (hb : HE X C b sb) (hm : behindInMarks op b = false) : HT X C (.Compare a [op] [b] pos) (tE (eBinC g sa sb)) :=
  pt_by (pt_cmpR ho ha hb hm) fun s H Q ⟨o, r, st, w, l, h⟩ => by
    refine rd_binC ⟨o, r, st, w, l, h.b fun d st1 e1 h v o' H' w' x' q => ?_⟩
    obtain ⟨k, e2, h⟩ := h.lift
    have hd : ∃ k, d = .bl k := by
      unfold eBinC at e1
      generalize sa C r st = A at e1
      cases A with
      | ok d1 s1 =>
        have e1 : (sb C r s1).bind (fun e st => g C d1 e st) = .ok d st1 := e1
        generalize sb C r s1 = B at e1
        cases B with
        | ok d2 s2 => exact hg _ _ _ _ _ _ e1
        | exc _ _ => cases e1
        | bad => cases e1
      | exc _ _ => cases e1
      | bad => cases e1
    obtain ⟨k', rfl⟩ := hd
    cases q
    cases e2
    exact ⟨_, rfl, h o' H' w' x'⟩
theorem tellB_bl {C : Res D} {neg : Bool} {r : D} {st' : Store} (h : (C.bind fun v st => tellB neg v st) = .ok r st') : ∃ k, r = .bl k := by
  cases C with
  | ok v st =>
    have h : tellB neg v st = .ok r st' := h
    unfold tellB at h
    split at h
    · cases h; exact ⟨_, rfl⟩
    · cases h
  | exc _ _ => cases h
  | bad => cases h
theorem oEq_bl {neg : Bool} {anc : List (Str × List Str)} {tab : List (Str × Str)} {g : D → D → Option D} (hg : Boolish g) : BoolishC (oEq neg anc tab g) := fun C d e st r st' h => by
  unfold oEq at h
  split at h
  · rename_i v e1
    cases h
    exact hg _ _ _ e1
  · split at h
    · unfold oEqR at h
      split at h
      · exact tellB_bl h
      · split at h
        · cases h
        · split at h
          · exact tellB_bl h
          · cases h
    · split at h
      · cases h
      · split at h
        · exact tellB_bl h
        · cases h
theorem oIn_bl {neg : Bool} {anc : List (Str × List Str)} {tabE tab : List (Str × Str)} {g : D → D → Option D} (hg : Boolish g) : BoolishC (oIn neg anc tabE tab g) := fun C d e st r st' h => by
  unfold oIn at h
  split at h
  · rename_i v e1
    cases h
    exact hg _ _ _ e1
  · split at h
    · exact tellB_bl h
    · exact tellB_bl h
    · split at h
      · cases h
      · exact tellB_bl h
end
/-! ### in the model -/
section
open PySem PySem.SeqAt GQ
open MeetsSeq MeetsSeq2 MeetsSeq3 SeqRoads2
variable {prog : Program} {w : World} {A : Around} {R : Result → Shared → Prop} {E : Value → Shared → Prop}
theorem tuple_containsG (l : Addr) (items : Array Value) (n : Nat) (dd : Option Addr) (sl : Array (Option Value)) (x : Value) (I : List Value → Shared → Prop)
    (turn : ∀ y rest s, I (y :: rest) s → wpAny (model prog w) A.in1 (eqBool y x) (fun r s' => (r = true ∧ R (.ok (.ret (.bool true))) s') ∨ (r = false ∧ I rest s')) (fun e s' => R (.error e) s') s)
    (fin : ∀ s, I [] s → R (.ok (.ret (.bool false))) s) {s : Shared} (hl : s.heap.get? l = some { cls := .type "tuple", dict := dd, data := .seq items n, slots := sl }) (h : I items.toList s) :
    wpAny (model prog w) A.in1 (Builtin.«tuple.__contains__» ⟨[.ref l, x], []⟩) (FinOf prog w A R) (fun e s' => R (.error e) s') s := by
  have h0 := h
  obtain ⟨hp, g, d, tk, os⟩ := s
  wp_walk using AutoSeq1.wpAny_loadPart' hl, wpAny_forIn_array _ (fun rest b s' => b.1 = none ∧ I rest s') _
  case turn =>
    rintro y rest b s' ⟨hb, hI⟩
    refine wpAny_bind (wpAny_mono (turn y rest s' hI) (fun r s2 q2 => ?_) fun _ _ x => x)
    rcases q2 with ⟨rfl, q⟩ | ⟨rfl, q⟩
    · wp_walk
      exact q
    · wp_walk
      exact ⟨rfl, q⟩
  case fin =>
    rintro ⟨b1, b2⟩ s' ⟨hb, hI⟩
    simp only at hb
    subst hb
    have hR := fin s' hI
    wp_walk
    exact hR
  case h =>
    exact ⟨rfl, h0⟩
theorem in_tupleG {l : Addr} {items : Array Value} {x : Value} {Q : Bool → Shared → Prop} (I : List Value → Shared → Prop)
    (turn : ∀ y rest s, I (y :: rest) s → wpAny (model prog w) A.in1 (eqBool y x) (fun r s' => (r = true ∧ Q true s') ∨ (r = false ∧ I rest s')) E s)
    (fin : ∀ s, I [] s → Q false s) {s : Shared} (hl : s.heap.IsTuple l items) (h : I items.toList s) : wpAny (model prog w) A (contains (.ref l) x) Q E s := by
  obtain ⟨⟨cls, dd, data, sl⟩, ho, hc, n, hd⟩ := id hl
  simp only at hc hd
  subst hc hd
  refine wpAny_contains_slot ⟨_, ho, rfl⟩ F.slot_tuple_contains ?_
  refine wpAny_mono (call_here (Q := fun v s' => ∃ b, v = .bool b ∧ Q b s') F.slot_tuple_contains ⟨_, ho, rfl⟩ F.entry_tuple_contains (F.args_tuple_contains_2 _ _) (tuple_containsG (R := wants (fun v s' => ∃ b, v = .bool b ∧ Q b s') E) l items n dd sl x I ?_ ?_ ho h)) (fun v s' hv => ?_) fun _ _ e => e
  · intro y rest s hI
    exact wpAny_mono (turn y rest s hI) (fun r s' q => q.elim (fun q => .inl ⟨q.1, _, rfl, q.2⟩) .inr) fun _ _ e => e
  · exact fun s hI => ⟨_, rfl, fin s hI⟩
  · obtain ⟨b, rfl, q⟩ := hv
    exact wpAny_truthy_bool q
theorem eqBool_own {s : Shared} {a : Addr} {u : Value} {Q : Bool → Shared → Prop} (h1 : Value.ref a = u → Q true s) (h2 : Value.ref a ≠ u → wpAny (model prog w) A (compareOp .Eq (.ref a) u) (fun v s' => ∃ r, v = .bool r ∧ Q r s') E s) : wpAny (model prog w) A (eqBool (.ref a) u) Q E s := by
  unfold eqBool
  refine wpAny_holding ?_
  refine wpAny_ite_split (fun hab => wpAny_bind (wpAny_rule (wpAny_pure (h1 (eq_of_beq hab))))) (fun hab => ?_)
  refine wpAny_bind (wpAny_mono (h2 fun z => hab (by rw [z]; exact beq_self_eq_true _)) (fun v s' hv => ?_) fun _ _ x => x)
  obtain ⟨r, rfl, q⟩ := hv
  exact wpAny_truthy_bool q
end
section
variable {prog : Program} {w : World} {A : Around} {E : Value → Shared → Prop} {s : Shared} {K : PySem.W.Frag} {x C f : Addr} {ox : Obj} {od : Option Obj} {b tb : Value}
open PySem.W in
/-- a op b by a's own method, b of a builtin type -/
theorem bin_own {T : String} {op : Operator} {fo ro : Option Value} {Q : Value → Shared → Prop} (X : K.In s.heap) (I : InstAt s.heap x ox C od) (hb : Looks (model prog w) s.heap (typeOf b) (.type T)) (hc : selfFirst K C = true)
    (hs : findIn K (.ref C) (PySem.dunder op.info.2) = some (some (.ref f))) (hf : isFn K (.ref f) = true) (hr : findIn K (.ref C) (dunderR op.info.2) = some none)
    (h1 : findIn K (.type T) (PySem.dunder op.info.2) = some fo) (h2 : findIn K (.type T) (dunderR op.info.2) = some ro) (hsub : subIn K (.type T) (.ref C) = some false)
    (h : wpAny (model prog w) A (call (.ref f) [.ref x, b]) (PySem.W.CmpBack Q) E s) : wpAny (model prog w) A (binaryOp op (.ref x) b) Q E s := by
  obtain ⟨cd, rest, hcd, hm⟩ := ksp_first hc
  rcases hi : op.info with ⟨sym, nm'⟩
  rw [hi] at hs hr h1 h2
  dsimp only at hs hr h1 h2
  have one := ksp_try X I hs hf h
  obtain ⟨hh, g, d, tt, os⟩ := s
  have L1 : Looks (model prog w) hh (typeOf (.ref x)) (.ref C) := I.type
  have L2 : Looks (model prog w) hh (typeOf b) (.type T) := hb
  have L3 : Looks (model prog w) hh (fillsNumberSlot (.ref C) nm') true := fills_K X hcd hm hs
  have L4 : Looks (model prog w) hh (fillsNumberSlot (.type T) nm') ((fo.isSome && !isSeqSlot fo) || (ro.isSome && !isSeqSlot ro)) := ksp_fillsT X h1 h2
  have L5 : Looks (model prog w) hh (isSubtype (.type T) (.ref C)) false := looks_subIn X hsub
  have L6 : Looks (model prog w) hh (numberSlotInPython (.ref C) nm') true := ksp_inPy X hs hr (.inl rfl)
  have L7 : Looks (model prog w) hh (numberSlotInPython (.type T) nm') false := Looks.of_pure rfl
  have L8 : Looks (model prog w) hh (typeLookup (.type T) (dunderR nm')) ro := looks_findIn X h2
  generalize ((fo.isSome && !isSeqSlot fo) || (ro.isSome && !isSeqSlot ro)) = right at L4
  have hne : (Value.ref C == Value.type T) = false := Bool.eq_false_iff.mpr fun q => by cases beq_iff_eq.mp q
  simp only [binaryOp, hi]
  refine wpAny_holding (wpAny_bind ?_)
  unfold binaryOp1
  refine wpAny_bind (L1.at (wpAny_bind (L2.at (wpAny_bind (L3.at ?_)))))
  simp only [hne, Bool.false_eq_true, if_false]
  cases right with
  | false =>
    ksp_lk
    refine wpAny_mono one (fun r s' hr' => ?_) fun _ _ e => e
    obtain ⟨v, rfl, hq⟩ := hr'
    ksp_lk
    exact hq
  | true =>
    ksp_lk
    refine wpAny_mono one (fun r s' hr' => ?_) fun _ _ e => e
    obtain ⟨v, rfl, hq⟩ := hr'
    ksp_lk
    exact hq
open PySem.W in
/-- a op b by a's own method, b of the same class -/
theorem bin_same {op : Operator} {Q : Value → Shared → Prop} (X : K.In s.heap) (I : InstAt s.heap x ox C od) (hb : Looks (model prog w) s.heap (typeOf b) (.ref C)) (hc : selfFirst K C = true)
    (hs : findIn K (.ref C) (PySem.dunder op.info.2) = some (some (.ref f))) (hf : isFn K (.ref f) = true)
    (h : wpAny (model prog w) A (call (.ref f) [.ref x, b]) (PySem.W.CmpBack Q) E s) : wpAny (model prog w) A (binaryOp op (.ref x) b) Q E s := by
  obtain ⟨cd, rest, hcd, hm⟩ := ksp_first hc
  rcases hi : op.info with ⟨sym, nm'⟩
  rw [hi] at hs
  dsimp only at hs
  have one := ksp_try X I hs hf h
  obtain ⟨hh, g, d, tt, os⟩ := s
  have L1 : Looks (model prog w) hh (typeOf (.ref x)) (.ref C) := I.type
  have L2 : Looks (model prog w) hh (typeOf b) (.ref C) := hb
  have L3 : Looks (model prog w) hh (fillsNumberSlot (.ref C) nm') true := fills_K X hcd hm hs
  simp only [binaryOp, hi]
  refine wpAny_holding (wpAny_bind ?_)
  unfold binaryOp1
  refine wpAny_bind (L1.at (wpAny_bind (L2.at (wpAny_bind (L3.at ?_)))))
  simp only [beq_self_eq_true, if_true]
  ksp_lk
  refine wpAny_mono one (fun r s' hr' => ?_) fun _ _ e => e
  obtain ⟨v, rfl, hq⟩ := hr'
  ksp_lk
  exact hq
open PySem.W in
/-- a compared with b where a's method answers -/
theorem cmp_by {op : CmpOp} {Q : Value → Shared → Prop} (hu : A.units < cLine) (X : K.In s.heap) (I : InstAt s.heap x ox C od) (hb : Looks (model prog w) s.heap (typeOf b) tb) (hn : notFirst K C tb = true)
    (one : wpAny (model prog w) A (tryCompare (.ref x) (cmpInfo op).2.1 b) (fun r s' => ∃ v, r = some v ∧ Q v s') E s) : wpAny (model prog w) A (richCompare op (.ref x) b) Q E s := by
  unfold richCompare
  simp only [oneThing_ref]
  refine wpAny_holding (wpAny_bind (wpAny_cRoomFor hu ?_))
  refine wpAny_bind (I.type.here (wpAny_bind (hb.here ?_)))
  split
  · rename_i q
    have e : subIn K tb (.ref C) = some false := by
      rcases Bool.or_eq_true_iff.mp hn with e | e
      · rw [beq_iff_eq.mp e] at q; simp at q
      · exact beq_iff_eq.mp e
    refine wpAny_bind ((looks_subIn X e).here ?_)
    simp only [Bool.false_eq_true, if_false]
    refine wpAny_bind (wpAny_mono one (fun r s' z => ?_) fun _ _ e => e)
    obtain ⟨v, rfl, hq⟩ := z
    exact wpAny_pure hq
  · refine wpAny_bind (wpAny_pure ?_)
    simp only [Bool.false_eq_true, if_false]
    refine wpAny_bind (wpAny_mono one (fun r s' z => ?_) fun _ _ e => e)
    obtain ⟨v, rfl, hq⟩ := z
    exact wpAny_pure hq
open PySem.W in
theorem eq_own {Q : Value → Shared → Prop} (hu : A.units < cLine) (X : K.In s.heap) (I : InstAt s.heap x ox C od) (hb : Looks (model prog w) s.heap (typeOf b) tb) (hn : notFirst K C tb = true)
    (hs : findIn K (.ref C) "__eq__" = some (some (.ref f))) (hf : isFn K (.ref f) = true)
    (h : wpAny (model prog w) A (call (.ref f) [.ref x, b]) (PySem.W.CmpBack Q) E s) : wpAny (model prog w) A (compareOp .Eq (.ref x) b) Q E s := by
  refine cmp_ofEq (cmp_by (op := .Eq) hu X I hb hn ?_)
  unfold tryCompare
  refine wpAny_bind (ifBound_K X I hs hf (wpAny_mono h (fun v s' hv => ?_) fun _ _ e => e))
  cases v <;> first | exact hv.elim | exact wpAny_pure ⟨_, rfl, hv⟩
open PySem.W in
theorem ne_own {Q : Value → Shared → Prop} (hu : A.units + 1 < cLine) (X : K.In s.heap) (I : InstAt s.heap x ox C od) (hb : Looks (model prog w) s.heap (typeOf b) tb) (hn : notFirst K C tb = true)
    (hne : findIn K (.ref C) "__ne__" = some (some (.builtin "object.__ne__"))) (hm : mroIn K C (.type "object") = some true) (hs : findIn K (.ref C) "__eq__" = some (some (.ref f))) (hf : isFn K (.ref f) = true)
    (h : wpAny (model prog w) A.in1 (call (.ref f) [.ref x, b]) (fun v s' => ∃ k, v = .bool k ∧ Q (.bool (!k)) s') E s) : wpAny (model prog w) A (compareOp .NotEq (.ref x) b) Q E s := by
  refine cmp_ofNotEq (cmp_by (op := .NotEq) (Nat.lt_of_succ_lt hu) X I hb hn (try_ne hu X I hne hm hs hf h))
open PySem.W in
theorem in_own {Q : Bool → Shared → Prop} (X : K.In s.heap) (I : InstAt s.heap x ox C od) (hs : findIn K (.ref C) "__contains__" = some (some (.ref f))) (hf : isFn K (.ref f) = true)
    (h : wpAny (model prog w) A (call (.ref f) [.ref x, b]) (fun r s' => ∃ k, r = .bool k ∧ Q k s') E s) : wpAny (model prog w) A (contains (.ref x) b) Q E s := by
  unfold contains
  refine wpAny_holding (wpAny_bind (wpAny_bind (I.type.here ((looks_findIn X hs).here ?_))))
  rw [if_neg (by simp)]
  refine wpAny_bind (unlessNone_K X I hs hf (wpAny_mono h (fun r s' hq => ?_) fun _ _ z => z))
  obtain ⟨k, rfl, hq⟩ := hq
  exact wpAny_truthy_bool hq
end
/-! ### by their meanings -/
def mulT : List String := ["NoneType", "int", "bool", "tuple", "str", "list", "dict"]
def mulB (K : PySem.W.Frag) (c : Str) : Bool := PySem.W.selfFirst K (He.ga K c) && (He.eqO (PySem.W.findIn K (.ref (He.ga K c)) "__rmul__") (some none) && (mulT.all fun t => (PySem.W.findIn K (.type t) "__mul__").isSome && ((PySem.W.findIn K (.type t) "__rmul__").isSome && decide (PySem.W.subIn K (.type t) (.ref (He.ga K c)) = some false))))
def eqB (K : PySem.W.Frag) (anc : List (Str × List Str)) (c : Str) : Bool := He.eqO (PySem.W.findIn K (.ref (He.ga K c)) "__ne__") (some (some (.builtin "object.__ne__"))) && (decide (PySem.W.mroIn K (He.ga K c) (.type "object") = some true) &&
  ((mulT.all fun t => decide (PySem.W.subIn K (.type t) (.ref (He.ga K c)) = some false) && decide (PySem.W.subIn K (.ref (He.ga K c)) (.type t) = some false)) && (anc.all fun y => y.2.contains c || decide (PySem.W.subIn K (.ref (He.ga K y.1)) (.ref (He.ga K c)) = some false))))
/-- c's own +, for two of c -/
def addB (K : PySem.W.Frag) (c : Str) : Bool := PySem.W.selfFirst K (He.ga K c)
/-- c's own x[i] is a def -/
def getB (K : PySem.W.Frag) (c : Str) : Bool := match PySem.W.findIn K (.ref (He.ga K c)) "__getitem__" with
  | some (some (.ref f)) => PySem.W.fnIn K f
  | _ => false
def opsB (K : PySem.W.Frag) (anc : List (Str × List Str)) (m c : Str) : Bool := if m = "__mul__" then mulB K c else if m = "__eq__" then (eqB K anc c && decide (PySem.W.subIn K (.ref (He.ga K c)) (.ref (He.ga K c)) = some true)) else if m = "__add__" then addB K c else if m = "__getitem__" then getB K c else if m = "__len__" then He.eqO (PySem.W.findIn K (.ref (He.ga K c)) "__bool__") (some none) else true
theorem lookupD_mem {α : Type} {x : Str} {y : α} : ∀ {l : List (Str × α)}, l.lookup x = some y → (x, y) ∈ l
  | [], h => by cases h
  | (k, v) :: r, h => by
    rw [List.lookup_cons] at h
    by_cases e : x = k
    · subst e
      simp at h
      subst h
      exact List.mem_cons_self
    · have ne : (x == k) = false := by simpa using e
      rw [ne] at h
      exact List.mem_cons_of_mem _ (lookupD_mem h)
theorem tyName_in {d : D} {t : String} (h : tyName d = some t) : t ∈ mulT := by
  cases d <;> first | (cases h; done) | (cases h; decide)
theorem rep_ni {K : PySem.W.Frag} {o : Wo} {v : V} {d : D} (r : Rep K o v d) {u : Value} (q : RelV v u) : u ≠ .notImplemented := by
  intro z
  subst z
  cases r with
  | int i => obtain ⟨t, q⟩ := q; cases q
  | str i => obtain ⟨t, q⟩ := q; cases q
  | _ => cases q
section
variable {X : Cx} {C : FEnv} {lv : Nat} {anc : List (Str × List Str)} {tab : List (Str × Str)} {g : D → D → Option D}
/-- the call itself, one deeper -/
theorem run_at1 {n : Nat} {ks : List Str} {g : List D → List D → Store → Res D} {ad : Addr} (F : RunAt X.prog X.w X.K X.mg X.base lv ad n ks g) (hr : Room (lv + 1) X.A) (hgd : X.A.guards = some []) {pins : List (Addr × Obj)} {σ : L2.St} {H : Hp} {s : Shared} {Q : VK} {us ws : List Value} {vs zs : List V}
    (I : Inv X pins σ H s) (rv : Vals vs us) (rz : Vals zs ws) {o : Wo} {st : Store} {ds es : List D} (w : Wd X.K o H st) (r1 : Reps X.K o vs ds) (r2 : Reps X.K o zs es) (l1 : ds.length = n) (l2 : es.length = ks.length) (h : OutD X.K (wx X) o H (g ds es st) Q) :
    wpAny (model X.prog X.w) X.A.in1 (call (.ref ad) us (ks.zip ws)) (EP X pins σ Q) X.xe s := by
  refine wpAny_call (codeAny_mono (F X.A.in1 X.stack s H us ws vs zs Q (wx X) hr.in1 hgd I.env0.in1 rv rz (by rw [r1.len]; exact l1) (by rw [r2.len]; exact l2) ⟨o, ds, es, st, w, r1, r2, h⟩) fun r s' hq => ?_)
  cases r with
  | error e => exact wx_call I hq
  | ok fl =>
    cases fl with
    | ret u => exact I.after hq
    | next => exact False.elim hq
    | brk => exact False.elim hq
    | cont => exact False.elim hq
def OwnOk (X : Cx) (C : FEnv) (lv : Nat) (anc : List (Str × List Str)) (m : Str) (tab : List (Str × Str)) : Prop := ∀ c f, tab.lookup c = some f → MethOk X C lv c m 2 [] f [.pos 0, .pos 1] ∧ opsB X.K anc m c = true
theorem looks_ty {pins : List (Addr × Obj)} {s : Shared} {σ : L2.St} {H : Hp} {o : Wo} {st : Store} {x : V} {u : Value} {d : D} {t : String} (I : Inv X pins σ H s) (w : Wd X.K o H st) (rx : RelV x u) (r : Rep X.K o x d) (h : tyName d = some t) :
    PySem.W.Looks (model X.prog X.w) s.heap (typeOf u) (.type t) := by
  obtain ⟨P, kx, hp, _⟩ := kit_of I rx (tyX_rep w r h)
  exact kx.ty _ _ I.kIn hp
theorem inst_of {pins : List (Addr × Obj)} {s : Shared} {σ : L2.St} {H : Hp} {o : Wo} {st : Store} {x : V} {u : Value} {d : D} {c : Str} (I : Inv X pins σ H s) (w : Wd X.K o H st) (rx : RelV x u) (r : Rep X.K o x d) (h : ownNm d = some c) :
    ∃ a ox od, x = .ref a ∧ u = .ref a ∧ PySem.W.InstAt s.heap a ox (He.ga X.K c) (some od) := by
  have hc : clsOf d st = some c := by
    cases d <;> first | (cases h; done) | (cases h; rfl)
  obtain ⟨a, dx, fs, rfl, ea, _⟩ := obj_view w r hc
  obtain ⟨mA, O, _, _, _, _⟩ := ins_get I.hok ea
  obtain ⟨od, J, _⟩ := O.look
  exact ⟨a, _, od, rfl, rx, J⟩
/-- whatever comes is no NotImplemented -/
theorem out_ni {K : PySem.W.Frag} {E : XK} {o : Wo} {H : Hp} {r : Res D} {Q : VK} (h : OutD K E o H r Q) : OutD K E o H r (fun v H' => (∀ u, RelV v u → u ≠ .notImplemented) ∧ Q v H') := by
  cases r with
  | ok d st => exact fun v o' H' w e q => ⟨fun u z => rep_ni q z, h v o' H' w e q⟩
  | exc _ _ => exact h
  | bad => exact h
theorem or_mul (hr : Room (lv + 1) X.A) (hgd : X.A.guards = some []) (ht : OwnOk X C lv anc "__mul__" tab) (hg : OpR X (binaryOp .Mult) (rD2 X.K g)) : OpR X (binaryOp .Mult) (rDC X.K (wx X) C (oMul tab g)) :=
  fun pins s σ H x y v u Q I rx ry ⟨o, st, d, e, w, r1, r2, h⟩ => by
  unfold oMul at h
  split at h
  · rename_i z e1
    exact hg pins s σ H x y v u Q I rx ry ⟨o, st, d, e, z, w, r1, r2, e1, h⟩
  · split at h
    · exact h.elim
    · rename_i f e1
      obtain ⟨c, e0, e1⟩ := Option.bind_eq_some_iff.mp e1
      split at h
      · rename_i ht'
        obtain ⟨t, ety⟩ := Option.isSome_iff_exists.mp ht'
        obtain ⟨⟨cl, ad, mt, F⟩, ob⟩ := ht c f e1
        obtain ⟨a, ox, od, rfl, rfl, J⟩ := inst_of I w rx r1 e0
        have ob : mulB X.K c = true := ob
        obtain ⟨b1, b2⟩ := He.ba ob
        obtain ⟨b2, b3⟩ := He.ba b2
        obtain ⟨b4, b5⟩ := He.ba (List.all_eq_true.mp b3 t (tyName_in ety))
        obtain ⟨b5, b6⟩ := He.ba b5
        obtain ⟨fo, q1⟩ := Option.isSome_iff_exists.mp b4
        obtain ⟨ro, q2⟩ := Option.isSome_iff_exists.mp b5
        refine bin_own (op := .Mult) (fo := fo) (ro := ro) (T := t) (f := ad) I.kIn J (looks_ty I w ry r2 ety) b1 mt.at_ mt.fn (He.eqO_ok b2) q1 q2 (of_decide_eq_true b6) ?_
        refine thn (run_at F (hr.mono (Nat.le_succ _)) hgd I (us := [.ref a, u]) (vs := [.ref a, y]) (ws := []) (zs := []) (.cons rfl (.cons ry .nil)) .nil w (.cons r1 (.cons r2 .nil)) .nil rfl rfl (out_ni h)) fun z s' ⟨x1, H1, I1, rx1, n1, q⟩ => ?_
        have := n1 z rx1
        cases z <;> first | exact absurd rfl this | exact ⟨x1, H1, I1, rx1, q⟩
      · exact h.elim
theorem or_add (hr : Room (lv + 1) X.A) (hgd : X.A.guards = some []) (ht : OwnOk X C lv anc "__add__" tab) (hg : OpR X (binaryOp .Add) (rD2 X.K g)) : OpR X (binaryOp .Add) (rDC X.K (wx X) C (oAdd tab g)) :=
  fun pins s σ H x y v u Q I rx ry ⟨o, st, d, e, w, r1, r2, h⟩ => by
  unfold oAdd at h
  split at h
  · rename_i z e1
    exact hg pins s σ H x y v u Q I rx ry ⟨o, st, d, e, z, w, r1, r2, e1, h⟩
  · split at h
    · exact h.elim
    · rename_i c f e1
      obtain ⟨c', e0, e1⟩ := Option.bind_eq_some_iff.mp e1
      obtain ⟨f', e2, e3⟩ := Option.map_eq_some_iff.mp e1
      cases e3
      split at h
      · rename_i he
        obtain ⟨⟨cl, ad, mt, F⟩, ob⟩ := ht _ _ e2
        obtain ⟨a, ox, od, rfl, rfl, J⟩ := inst_of I w rx r1 e0
        obtain ⟨b, ox', od', rfl, rfl, J'⟩ := inst_of I w ry r2 he
        have ob : addB X.K c = true := ob
        refine bin_same (op := .Add) (f := ad) I.kIn J J'.type ob mt.at_ mt.fn ?_
        refine thn (run_at F (hr.mono (Nat.le_succ _)) hgd I (us := [.ref a, .ref b]) (vs := [.ref a, .ref b]) (ws := []) (zs := []) (.cons rfl (.cons rfl .nil)) .nil w (.cons r1 (.cons r2 .nil)) .nil rfl rfl (out_ni h)) fun z s' ⟨x1, H1, I1, rx1, n1, q⟩ => ?_
        have := n1 z rx1
        cases z <;> first | exact absurd rfl this | exact ⟨x1, H1, I1, rx1, q⟩
      · exact h.elim
theorem right_ok {pins : List (Addr × Obj)} {s : Shared} {σ : L2.St} {H : Hp} {o : Wo} {st : Store} {x : V} {u : Value} {d : D} {c : Str} (I : Inv X pins σ H s) (w : Wd X.K o H st) (rx : RelV x u) (r : Rep X.K o x d) (b : eqB X.K anc c = true) (h : rightOk anc c d = true) :
    ∃ tb, PySem.W.Looks (model X.prog X.w) s.heap (typeOf u) tb ∧ PySem.W.notFirst X.K (He.ga X.K c) tb = true := by
  obtain ⟨_, b⟩ := He.ba b
  obtain ⟨_, b⟩ := He.ba b
  obtain ⟨b1, b2⟩ := He.ba b
  have ty : ∀ t, tyName d = some t → ∃ tb, PySem.W.Looks (model X.prog X.w) s.heap (typeOf u) tb ∧ PySem.W.notFirst X.K (He.ga X.K c) tb = true := fun t ht => by
    refine ⟨.type t, looks_ty I w rx r ht, ?_⟩
    unfold PySem.W.notFirst
    rw [of_decide_eq_true (He.ba (List.all_eq_true.mp b1 t (tyName_in ht))).1]
    simp
  cases d with
  | obj c' ns xs =>
    obtain ⟨a, ox, od, rfl, rfl, J⟩ := inst_of I w rx r (c := c') rfl
    refine ⟨.ref (He.ga X.K c'), J.type, ?_⟩
    unfold PySem.W.notFirst
    have h : (decide (c' = c) || (match anc.lookup c' with
      | some l => !(l.contains c)
      | none => false)) = true := h
    rcases Bool.or_eq_true_iff.mp h with e | e
    · have e : c' = c := of_decide_eq_true e
      subst e
      simp
    · split at e
      · rename_i l el
        have hm := lookupD_mem el
        have := List.all_eq_true.mp b2 (c', l) hm
        rcases Bool.or_eq_true_iff.mp this with q | q
        · have q : l.contains c = true := q
          rw [q] at e
          cases e
        · rw [of_decide_eq_true q]
          simp
      · cases e
  | non => exact ty _ rfl
  | bl b => exact ty _ rfl
  | int i => exact ty _ rfl
  | str i => exact ty _ rfl
  | tup i => exact ty _ rfl
  | lst i => exact ty _ rfl
  | emp => exact ty _ rfl
  | scr i => exact ty _ rfl
  | cell i => cases h
  | ty i => cases h
  | cls i => cases h
theorem tell_out {K : PySem.W.Frag} {E : XK} {o : Wo} {H : Hp} {r : Res D} {Q : VK} {neg : Bool} (h : OutD K E o H (r.bind fun v st => tellB neg v st) Q) : OutD K E o H r (fun v H' => ∃ k, v = .bl k ∧ Q (.bl (k != neg)) H') := by
  cases r with
  | ok d st =>
    have h : OutD K E o H (tellB neg d st) Q := h
    unfold tellB at h
    split at h
    · intro v o' H' w e q
      cases q
      exact ⟨_, rfl, h _ o' H' w e (.bl _)⟩
    · exact h.elim
  | exc _ _ => exact h
  | bad => exact h
theorem clsDiff_no {K : PySem.W.Frag} {anc : List (Str × List Str)} {c : Str} {o : Wo} {v : V} {y x : D} (ob : eqB K anc c = true ∧ decide (PySem.W.subIn K (.ref (He.ga K c)) (.ref (He.ga K c)) = some true) = true) (e0 : ownNm y = some c) (r1 : Rep K o v y) (r2 : Rep K o v x) (h : clsDiff anc c x = true) : False := by
  obtain ⟨b, s⟩ := ob
  obtain ⟨_, b⟩ := He.ba b
  obtain ⟨_, b⟩ := He.ba b
  obtain ⟨b1, b2⟩ := He.ba b
  unfold clsDiff at h
  split at h
  · split at h
    · rename_i l el
      cases y <;> first | (cases e0; done) | skip
      cases e0
      cases r1 with
      | obj a1 _ _ _ =>
        cases r2 with
        | obj a2 _ _ _ =>
          rw [a1] at a2
          injection a2 with a2
          injection a2 with a2 _ _
          have hm := lookupD_mem el
          have := List.all_eq_true.mp b2 _ hm
          rcases Bool.or_eq_true_iff.mp this with q | q
          · have q : l.contains c = true := q
            rw [q] at h
            cases h
          · have q := of_decide_eq_true q
            have s := of_decide_eq_true s
            rw [← a2, s] at q
            cases q
    · cases h
  · cases h
/-- a builtin value declines -/
theorem decl_rep {pins : List (Addr × Obj)} {s : Shared} {σ : L2.St} {H : Hp} {o : Wo} {st : Store} {y : V} {v : Value} {d : D} {t : String} {b Cb dx : Addr} {A : Around} {E : Value → Shared → Prop} (I : Inv X pins σ H s) (w : Wd X.K o H st) (ry : RelV y v) (r : Rep X.K o y d) (ht : tyName d = some t)
    (hb : s.heap.get? b = some (PySem.W.instObj Cb dx)) (hs : PySem.W.Looks (model X.prog X.w) s.heap (isSubtype (.ref Cb) (.type t)) false) (ne : Bool) (Q' : Option Value → Shared → Prop) (q : Q' none s) :
    wpAny (model X.prog X.w) A (tryCompare v (if ne then (cmpInfo .NotEq).2.1 else (cmpInfo .Eq).2.1) (.ref b)) Q' E s := by
  cases r with
  | non => cases ry; cases ht; exact decl_none (name := "") (id := "") ne q
  | bl k => cases ry; cases ht; exact decl_int (.inr ⟨k, rfl, rfl⟩) hb ne q
  | int i =>
    obtain ⟨tk, rfl⟩ := ry
    cases ht
    exact decl_int (.inl ⟨i, tk, rfl, rfl⟩) hb ne q
  | str i =>
    obtain ⟨tk, rfl⟩ := ry
    exact decl_str hb ne q
  | tup a1 a2 =>
    cases ry
    cases ht
    obtain ⟨its, rv, ⟨ob, ho, hc, n, hd⟩, _⟩ := I.tuple (sqT_up w a1)
    exact decl_tup ⟨ob, ho, hc⟩ hb hs ne q
  | lst a1 a2 =>
    cases ry
    cases ht
    obtain ⟨its, rv, ⟨ob, n, ho, hc, _, hd⟩, _⟩ := I.list (SqL.of (w.sub _ _ a1))
    exact decl_lst ⟨ob, ho, hc⟩ hb hs ne q
  | scr a1 =>
    cases ry
    cases ht
    obtain ⟨its, rv, ⟨ob, n, ho, hc, _, hd⟩, _⟩ := I.list (sqL_up w a1)
    exact decl_lst ⟨ob, ho, hc⟩ hb hs ne q
  | emp a1 =>
    cases ry
    cases ht
    obtain ⟨_, ns, vs, kv, ob, es, ep, e1, e2, e3, _, e4, _⟩ := I.hok _ _ (w.sub _ _ a1)
    exact decl_dict ⟨ob, e1, e2.1⟩ hb hs ne q
  | _ => cases ht
theorem eqTs_ok {neg : Bool} (hr : Room (lv + 1) X.A) (hgd : X.A.guards = some []) (ht : OwnOk X C lv anc "__eq__" tab) {pins : List (Addr × Obj)} {σ : L2.St} {s : Shared} {H : Hp} {p q : Addr} {ys xs : List D} {o : Wo} {st : Store} {Q : VK}
    (I : Inv X pins σ H s) (w : Wd X.K o H st) (r1 : Rep X.K o (.ref p) (.tup ys)) (r2 : Rep X.K o (.ref q) (.tup xs)) (h : OutD X.K (wx X) o H ((eqTs anc tab C ys xs st).bind fun v st => tellB neg v st) Q) :
    wpAny (model X.prog X.w) X.A (compareOp (if neg then .NotEq else .Eq) (.ref p) (.ref q)) (EP X pins σ Q) X.xe s := by
  cases r1 with
  | tup a1 a2 =>
  cases r2 with
  | tup b1 b2 =>
    obtain ⟨its, rv, hl, _⟩ := I.tuple (sqT_up w a1)
    obtain ⟨its2, rv2, hl2, _⟩ := I.tuple (sqT_up w b1)
    refine thn (tup_cmp neg (Q := fun k s' => ∃ H', Inv X pins σ H' s' ∧ Q (.bl k) H') hr.units0 (fun us zs s' => ∃ H' o' st' vs' ws' ys' xs', Inv X pins σ H' s' ∧ Wd X.K o' H' st' ∧ Vals vs' us ∧ Reps X.K o' vs' ys' ∧ Vals ws' zs ∧ Reps X.K o' ws' xs' ∧ OutD X.K (wx X) o' H' ((eqTs anc tab C ys' xs' st').bind fun v st => tellB neg v st) Q) ?_ ?_ hl hl2 ⟨H, o, st, _, _, _, _, I, w, rv, a2, rv2, b2, h⟩) fun v s' ⟨k, ek, H', I', hq⟩ => ?_
    · rintro y us x zs s' ⟨H', o', st', vs', ws', ys', xs', I', w', rv, rp, rz, rq, h'⟩
      cases rv with
      | cons ry rv =>
      cases rp with
      | cons rpy rp =>
      cases rz with
      | cons rx rz =>
      cases rq with
      | cons rqx rq =>
        unfold eqTs at h'
        split at h'
        · exact h'.elim
        · rename_i c f e1
          obtain ⟨c', e0, e1⟩ := Option.bind_eq_some_iff.mp e1
          obtain ⟨f', e2, e3⟩ := Option.map_eq_some_iff.mp e1
          cases e3
          split at h'
          · rename_i ro
            obtain ⟨⟨cl, ad, mt, F⟩, ob⟩ := ht _ _ e2
            have ob2 := ob
            have ob : eqB X.K anc c = true := (He.ba ob).1
            obtain ⟨a, ox, od, rfl, rfl, J⟩ := inst_of I' w' ry rpy e0
            obtain ⟨tb, lb, nb⟩ := right_ok I' w' rx rqx ob ro
            have go : ∀ (k : Bool) (st1 : Store), C f [_, _] st' = .ok (.bl k) st1 → Value.ref a ≠ x → wpAny (model X.prog X.w) X.A.in1 (compareOp .Eq (.ref a) x) (fun v s2 => v = .bool k ∧ ∃ o2 H2, Inv X pins σ H2 s2 ∧ Wd X.K o2 H2 st1 ∧ Ext o' H' o2 H2) X.xe s' := fun k st1 ec _ => by
              refine eq_own (f := ad) hr.in1.units0 I'.kIn J lb nb mt.at_ mt.fn ?_
              refine thn (run_at1 F hr hgd I' (us := [.ref a, x]) (vs := [.ref a, _]) (ws := []) (zs := []) (Q := fun v H2 => v = .bl k ∧ ∃ o2, Wd X.K o2 H2 st1 ∧ Ext o' H' o2 H2) (.cons rfl (.cons rx .nil)) .nil w' (.cons rpy (.cons rqx .nil)) .nil rfl rfl ?_) fun z s2 ⟨x1, H1, I1, rx1, ek, o2, w2, x2⟩ => ?_
              · show OutD X.K (wx X) o' H' (C f [_, _] st') _
                rw [ec]
                exact fun v o2 H2 w2 x2 q => by
                  cases q
                  exact ⟨rfl, o2, w2, x2⟩
              · subst ek
                obtain rfl : z = Value.bool k := rx1
                exact ⟨rfl, o2, H1, I1, w2, x2⟩
            split at h'
            · rename_i st1 ec
              split at h'
              · rename_i es
                subst es
                refine eqBool_own (fun _ => .inl ⟨rfl, H', o', _, _, _, _, _, I', w', rv, rp, rz, rq, h'⟩) fun ne => ?_
                exact thn (go true _ ec ne) fun v s2 ⟨ev, o2, H2, I2, w2, x2⟩ => ⟨true, ev, .inl ⟨rfl, H2, o2, _, _, _, _, _, I2, w2, rv, rp.mono x2.sub, rz, rq.mono x2.sub, OutD.later h' w2 x2⟩⟩
              · exact h'.elim
            · rename_i st1 ec
              split at h'
              · rename_i ap
                refine eqBool_own (fun eu => ?_) fun ne => ?_
                · subst eu
                  rename_i xv _ _ _ _ _ _ _ _ _ _ _ _ _
                  exfalso
                  have key : ∀ (x0 : V), RelV x0 (Value.ref a) → x0 = .ref a := fun x0 h0 => by
                    cases x0 <;> first | (cases h0; rfl) | (cases h0; done) | (obtain ⟨_, q⟩ := h0; cases q)
                  have := key _ rx
                  subst this
                  rcases ap with ap | ap
                  · exact ap X pins σ H' s' o' st' _ I' w' rpy rqx
                  · exact clsDiff_no (He.ba ob2) e0 rpy rqx ap
                · exact thn (go false _ ec ne) fun v s2 ⟨ev, o2, H2, I2, w2, x2⟩ => ⟨false, ev, .inr ⟨rfl, H2, I2, h' _ o2 H2 w2 x2 (.bl _)⟩⟩
              · exact h'.elim
            · exact h'.elim
          · exact h'.elim
    · rintro us zs s' he ⟨H', o', st', vs', ws', ys', xs', I', w', rv, rp, rz, rq, h'⟩
      refine ⟨H', I', ?_⟩
      have l1 : us.length = ys'.length := by rw [← rv.length, rp.len]
      have l2 : zs.length = xs'.length := by rw [← rz.length, rq.len]
      have e : eqTs anc tab C ys' xs' st' = .ok (.bl (ys'.length == xs'.length)) st' := by
        cases ys' with
        | nil => rfl
        | cons y ys' =>
          cases xs' with
          | nil => rfl
          | cons x xs' =>
            rcases he with rfl | rfl
            · simp at l1
            · simp at l2
      rw [e] at h'
      rw [l1, l2]
      exact h' _ o' H' w' (.refl _ _) (.bl _)
    · subst ek
      exact ⟨.bl k, H', I', rfl, hq⟩
theorem or_eqR {neg : Bool} (hr : Room (lv + 1) X.A) (hgd : X.A.guards = some []) (ht : OwnOk X C lv anc "__eq__" tab) {pins : List (Addr × Obj)} {σ : L2.St} {s : Shared} {H : Hp} {x y : V} {v u : Value} {d e : D} {o : Wo} {st : Store} {Q : VK}
    (I : Inv X pins σ H s) (rx : RelV x v) (ry : RelV y u) (w : Wd X.K o H st) (r1 : Rep X.K o x d) (r2 : Rep X.K o y e) (h : OutD X.K (wx X) o H (oEqR neg anc tab C d e st) Q) : wpAny (model X.prog X.w) X.A (compareOp (if neg then .NotEq else .Eq) v u) (EP X pins σ Q) X.xe s := by
  unfold oEqR at h
  split at h
  · have key : ∀ (x0 : V) (ds : List D) (v0 : Value), RelV x0 v0 → Rep X.K o x0 (.tup ds) → ∃ a, x0 = .ref a ∧ v0 = .ref a := fun x0 ds v0 h0 h1 => by
      cases h1
      cases h0
      exact ⟨_, rfl, rfl⟩
    obtain ⟨a, rfl, rfl⟩ := key _ _ _ rx r1
    obtain ⟨b, rfl, rfl⟩ := key _ _ _ ry r2
    exact eqTs_ok hr hgd ht I w r1 r2 h
  · split at h
    · exact h.elim
    · rename_i f e1
      obtain ⟨c, e0, e1⟩ := Option.bind_eq_some_iff.mp e1
      split at h
      · rename_i td
        obtain ⟨t, td⟩ := Option.isSome_iff_exists.mp td
        obtain ⟨⟨cl, ad, mt, F⟩, ob⟩ := ht c f e1
        have ob : eqB X.K anc c = true := (He.ba ob).1
        have hc : clsOf e st = some c := by
          cases e <;> first | (cases e0; done) | (cases e0; rfl)
        obtain ⟨a, dx, fs, rfl, ea, _⟩ := obj_view w r2 hc
        obtain ⟨mA, O, _, _, _, _⟩ := ins_get I.hok ea
        obtain ⟨od, J, _⟩ := O.look
        have hb := O.obj
        obtain rfl : u = Value.ref a := ry
        obtain ⟨b1, b2⟩ := He.ba ob
        obtain ⟨b2, b3⟩ := He.ba b2
        obtain ⟨b3, b4⟩ := He.ba b3
        have sb := of_decide_eq_true (He.ba (List.all_eq_true.mp b3 t (tyName_in td))).2
        have one : ∀ (Q' : Option Value → Shared → Prop), Q' none s → wpAny (model X.prog X.w) X.A (tryCompare v (if neg then (cmpInfo .NotEq).2.1 else (cmpInfo .Eq).2.1) (.ref a)) Q' X.xe s := fun Q' q => decl_rep I w rx r1 td hb (PySem.W.looks_subIn I.kIn sb) neg Q' q
        cases neg
        · refine eq_back (f := ad) hr.units0 I.kIn J (looks_ty I w rx r1 td) sb one mt.at_ mt.fn ?_
          refine thn (run_at F (hr.mono (Nat.le_succ _)) hgd I (us := [.ref a, v]) (vs := [.ref a, x]) (ws := []) (zs := []) (.cons rfl (.cons rx .nil)) .nil w (.cons r2 (.cons r1 .nil)) .nil rfl rfl (tell_out h)) fun z s' ⟨x1, H1, I1, rx1, k, ek, q⟩ => ?_
          subst ek
          obtain rfl : z = Value.bool k := rx1
          exact ⟨.bl k, H1, I1, rfl, by simpa using q⟩
        · refine ne_back (f := ad) (by have := hr.units; omega) I.kIn J (looks_ty I w rx r1 td) sb one (He.eqO_ok b1) (of_decide_eq_true b2) mt.at_ mt.fn ?_
          refine thn (run_at1 F hr hgd I (us := [.ref a, v]) (vs := [.ref a, x]) (ws := []) (zs := []) (.cons rfl (.cons rx .nil)) .nil w (.cons r2 (.cons r1 .nil)) .nil rfl rfl (tell_out h)) fun z s' ⟨x1, H1, I1, rx1, k, ek, q⟩ => ?_
          subst ek
          obtain rfl : z = Value.bool k := rx1
          exact ⟨k, rfl, .bl (!k), H1, I1, rfl, by simpa using q⟩
      · exact h.elim
theorem or_eq (hr : Room (lv + 1) X.A) (hgd : X.A.guards = some []) (ht : OwnOk X C lv anc "__eq__" tab) (hg : OpR X (compareOp .Eq) (rD2 X.K g)) : OpR X (compareOp .Eq) (rDC X.K (wx X) C (oEq false anc tab g)) :=
  fun pins s σ H x y v u Q I rx ry ⟨o, st, d, e, w, r1, r2, h⟩ => by
  unfold oEq at h
  split at h
  · rename_i z e1
    exact hg pins s σ H x y v u Q I rx ry ⟨o, st, d, e, z, w, r1, r2, e1, h⟩
  · split at h
    · exact or_eqR (neg := false) hr hgd ht I rx ry w r1 r2 h
    · rename_i c e0
      split at h
      · exact h.elim
      · rename_i f e1
        split at h
        · rename_i ro
          obtain ⟨⟨cl, ad, mt, F⟩, ob⟩ := ht c f e1
          have ob2 := ob
          have ob : eqB X.K anc c = true := (He.ba ob).1
          obtain ⟨a, ox, od, rfl, rfl, J⟩ := inst_of I w rx r1 e0
          obtain ⟨tb, lb, nb⟩ := right_ok I w ry r2 ob ro
          refine eq_own (f := ad) hr.units0 I.kIn J lb nb mt.at_ mt.fn ?_
          refine thn (run_at F (hr.mono (Nat.le_succ _)) hgd I (us := [.ref a, u]) (vs := [.ref a, y]) (ws := []) (zs := []) (.cons rfl (.cons ry .nil)) .nil w (.cons r1 (.cons r2 .nil)) .nil rfl rfl (tell_out h)) fun z s' ⟨x1, H1, I1, rx1, k, ek, q⟩ => ?_
          subst ek
          obtain rfl : z = Value.bool k := rx1
          exact ⟨.bl k, H1, I1, rfl, by simpa using q⟩
        · exact h.elim
theorem or_ne (hr : Room (lv + 1) X.A) (hgd : X.A.guards = some []) (ht : OwnOk X C lv anc "__eq__" tab) (hg : OpR X (compareOp .NotEq) (rD2 X.K g)) : OpR X (compareOp .NotEq) (rDC X.K (wx X) C (oEq true anc tab g)) :=
  fun pins s σ H x y v u Q I rx ry ⟨o, st, d, e, w, r1, r2, h⟩ => by
  unfold oEq at h
  split at h
  · rename_i z e1
    exact hg pins s σ H x y v u Q I rx ry ⟨o, st, d, e, z, w, r1, r2, e1, h⟩
  · split at h
    · exact or_eqR (neg := true) hr hgd ht I rx ry w r1 r2 h
    · rename_i c e0
      split at h
      · exact h.elim
      · rename_i f e1
        split at h
        · rename_i ro
          obtain ⟨⟨cl, ad, mt, F⟩, ob⟩ := ht c f e1
          have ob2 := ob
          have ob : eqB X.K anc c = true := (He.ba ob).1
          obtain ⟨a, ox, od, rfl, rfl, J⟩ := inst_of I w rx r1 e0
          obtain ⟨tb, lb, nb⟩ := right_ok I w ry r2 ob ro
          obtain ⟨b1, b2⟩ := He.ba ob
          obtain ⟨b2, _⟩ := He.ba b2
          refine ne_own (f := ad) (by have := hr.units; omega) I.kIn J lb nb (He.eqO_ok b1) (of_decide_eq_true b2) mt.at_ mt.fn ?_
          refine thn (run_at1 F hr hgd I (us := [.ref a, u]) (vs := [.ref a, y]) (ws := []) (zs := []) (.cons rfl (.cons ry .nil)) .nil w (.cons r1 (.cons r2 .nil)) .nil rfl rfl (tell_out h)) fun z s' ⟨x1, H1, I1, rx1, k, ek, q⟩ => ?_
          subst ek
          obtain rfl : z = Value.bool k := rx1
          exact ⟨k, rfl, .bl (!k), H1, I1, rfl, by simpa using q⟩
        · exact h.elim
theorem inT_ok {anc : List (Str × List Str)} {tab : List (Str × Str)} (hr : Room (lv + 1) X.A) (hgd : X.A.guards = some []) (ht : OwnOk X C lv anc "__eq__" tab) {pins : List (Addr × Obj)} {σ : L2.St} {s : Shared} {H : Hp} {x : V} {u : Value} {p : Addr} {d : D} {ys : List D} {o : Wo} {st : Store} {Q : VK}
    (I : Inv X pins σ H s) (rx : RelV x u) (w : Wd X.K o H st) (r1 : Rep X.K o x d) (r2 : Rep X.K o (.ref p) (.tup ys)) (h : OutD X.K (wx X) o H (inT anc tab C d ys st) Q) :
    wpAny (model X.prog X.w) X.A (contains (.ref p) u) (fun b s' => ∃ H', Inv X pins σ H' s' ∧ Q (.bl b) H') X.xe s := by
  cases r2 with
  | tup a1 a2 =>
    obtain ⟨its, r, ht', hz⟩ := I.tuple (sqT_up w a1)
    refine in_tupleG (fun rest s' => ∃ H' o' st' vs' ys', Inv X pins σ H' s' ∧ Wd X.K o' H' st' ∧ Vals vs' rest ∧ Reps X.K o' vs' ys' ∧ Rep X.K o' x d ∧ OutD X.K (wx X) o' H' (inT anc tab C d ys' st') Q) ?_ ?_ ht' ⟨H, o, st, _, _, I, w, r, a2, r1, h⟩
    · rintro y rest s' ⟨H', o', st', vs', ys', I', w', rv, rp, rx', h'⟩
      cases rv with
      | cons ry rv =>
        cases rp with
        | cons rpy rp =>
          unfold inT at h'
          split at h'
          · exact h'.elim
          · rename_i c f e1
            obtain ⟨c', e0, e1⟩ := Option.bind_eq_some_iff.mp e1
            obtain ⟨f', e2, e3⟩ := Option.map_eq_some_iff.mp e1
            cases e3
            split at h'
            · rename_i ro
              obtain ⟨⟨cl, ad, mt, F⟩, ob⟩ := ht _ _ e2
              have ob2 := ob
              have ob : eqB X.K anc c = true := (He.ba ob).1
              obtain ⟨a, ox, od, rfl, rfl, J⟩ := inst_of I' w' ry rpy e0
              obtain ⟨tb, lb, nb⟩ := right_ok I' w' rx rx' ob ro
              have go : ∀ (k : Bool) (st1 : Store), C f [_, d] st' = .ok (.bl k) st1 → Value.ref a ≠ u → wpAny (model X.prog X.w) X.A.in1 (compareOp .Eq (.ref a) u) (fun v s2 => v = .bool k ∧ ∃ o2 H2, Inv X pins σ H2 s2 ∧ Wd X.K o2 H2 st1 ∧ Ext o' H' o2 H2) X.xe s' := fun k st1 ec _ => by
                refine eq_own (f := ad) hr.in1.units0 I'.kIn J lb nb mt.at_ mt.fn ?_
                refine thn (run_at1 F hr hgd I' (us := [.ref a, u]) (vs := [.ref a, x]) (ws := []) (zs := []) (Q := fun v H2 => v = .bl k ∧ ∃ o2, Wd X.K o2 H2 st1 ∧ Ext o' H' o2 H2) (.cons rfl (.cons rx .nil)) .nil w' (.cons rpy (.cons rx' .nil)) .nil rfl rfl ?_) fun z s2 ⟨x1, H1, I1, rx1, ek, o2, w2, x2⟩ => ?_
                · show OutD X.K (wx X) o' H' (C f [_, d] st') _
                  rw [ec]
                  exact fun v o2 H2 w2 x2 q => by
                    cases q
                    exact ⟨rfl, o2, w2, x2⟩
                · subst ek
                  obtain rfl : z = Value.bool k := rx1
                  exact ⟨rfl, o2, H1, I1, w2, x2⟩
              split at h'
              · rename_i st1 ec
                split at h'
                · rename_i es
                  subst es
                  refine eqBool_own (fun _ => .inl ⟨rfl, H', I', h' _ o' H' w' (.refl _ _) (.bl true)⟩) fun ne => ?_
                  exact thn (go true _ ec ne) fun v s2 ⟨ev, o2, H2, I2, w2, x2⟩ => ⟨true, ev, .inl ⟨rfl, H2, I2, h' _ o2 H2 w2 x2 (.bl true)⟩⟩
                · exact h'.elim
              · rename_i st1 ec
                split at h'
                · rename_i ap
                  refine eqBool_own (fun eu => ?_) fun ne => ?_
                  · subst eu
                    cases x with
                    | ref b =>
                      obtain rfl : a = b := by
                        have := rx
                        cases this
                        rfl
                      rcases ap with ap | ap
                      · exact (ap X pins σ H' s' o' st' _ I' w' rpy rx').elim
                      · exact (clsDiff_no (He.ba ob2) e0 rpy rx' ap).elim
                    | _ => first | (cases rx; done) | (obtain ⟨_, q⟩ := rx; cases q)
                  · exact thn (go false _ ec ne) fun v s2 ⟨ev, o2, H2, I2, w2, x2⟩ => ⟨false, ev, .inr ⟨rfl, H2, o2, st1, _, _, I2, w2, rv, rp.mono x2.sub, rx'.mono x2.sub, OutD.later h' w2 x2⟩⟩
                · exact h'.elim
              · exact h'.elim
            · exact h'.elim
    · rintro s' ⟨H', o', st', vs', ys', I', w', rv, rp, rx', h'⟩
      cases rv
      cases rp
      exact ⟨H', I', h' _ o' H' w' (.refl _ _) (.bl false)⟩
theorem inL_ok {anc : List (Str × List Str)} {tab : List (Str × Str)} (hr : Room (lv + 1) X.A) (hgd : X.A.guards = some []) (ht : OwnOk X C lv anc "__eq__" tab) {pins : List (Addr × Obj)} {σ : L2.St} {s : Shared} {H : Hp} {x : V} {u : Value} {p : Addr} {d : D} {ys : List D} {o : Wo} {st : Store} {Q : VK}
    (I : Inv X pins σ H s) (rx : RelV x u) (w : Wd X.K o H st) (r1 : Rep X.K o x d) (r2 : Rep X.K o (.ref p) (.lst ys)) (h : OutD X.K (wx X) o H (inT anc tab C d ys st) Q) :
    wpAny (model X.prog X.w) X.A (contains (.ref p) u) (fun b s' => ∃ H', Inv X pins σ H' s' ∧ Q (.bl b) H') X.xe s := by
  cases r2 with
  | lst a1 a2 =>
    rename_i vs
    refine in_listG vs.length (fun i s' => ∃ H' o' st', Inv X pins σ H' s' ∧ Wd X.K o' H' st' ∧ o'.F p = some (.lst vs) ∧ Reps X.K o' vs ys ∧ Rep X.K o' x d ∧ OutD X.K (wx X) o' H' (inT anc tab C d (ys.drop i) st') Q) ?_ ?_ ⟨H, o, st, I, w, a1, a2, r1, h⟩
    · rintro i s' ⟨H', o', st', I', w', hF, rp, rx', h'⟩
      obtain ⟨its, rv, ⟨⟨cls, dd, data, sl⟩, n, ho, hc, _, hd⟩, _⟩ := I'.list (SqL.of (w'.sub _ _ hF))
      simp only at hc hd
      subst hc hd
      refine ⟨its.toArray, n, dd, sl, ho, by rw [List.size_toArray, ← rv.length], fun hlt => ?_⟩
      have hi : i < its.length := by simpa using hlt
      have hiv : i < vs.length := by rw [rv.length]; exact hi
      have hiy : i < ys.length := by rw [← rp.len]; exact hiv
      obtain ⟨u0, hu0, ry⟩ := rv.get (List.getElem?_eq_getElem hiv)
      have e0 : its.toArray[i] = u0 := by
        have := hu0
        rw [List.getElem?_eq_getElem hi] at this
        have := Option.some.inj this
        simpa using this
      rw [e0]
      obtain ⟨y0, hy0, rpy⟩ := rp.getV (List.getElem?_eq_getElem hiv)
      have ed : ys.drop i = y0 :: ys.drop (i + 1) := by
        rw [List.drop_eq_getElem_cons hiy]
        rw [List.getElem?_eq_getElem hiy] at hy0
        rw [Option.some.inj hy0]
      rw [ed] at h'
      generalize vs[i] = y at ry rpy
      unfold inT at h'
      split at h'
      · exact h'.elim
      · rename_i c f e1
        obtain ⟨c', e0', e1⟩ := Option.bind_eq_some_iff.mp e1
        obtain ⟨f', e2, e3⟩ := Option.map_eq_some_iff.mp e1
        cases e3
        split at h'
        · rename_i ro
          obtain ⟨⟨cl, ad, mt, F⟩, ob⟩ := ht _ _ e2
          have ob2 := ob
          have ob : eqB X.K anc c = true := (He.ba ob).1
          obtain ⟨a, ox, od, rfl, rfl, J⟩ := inst_of I' w' ry rpy e0'
          obtain ⟨tb, lb, nb⟩ := right_ok I' w' rx rx' ob ro
          have go : ∀ (k : Bool) (st1 : Store), C f [y0, d] st' = .ok (.bl k) st1 → Value.ref a ≠ u → wpAny (model X.prog X.w) X.A.in1 (compareOp .Eq (.ref a) u) (fun v s2 => v = .bool k ∧ ∃ o2 H2, Inv X pins σ H2 s2 ∧ Wd X.K o2 H2 st1 ∧ Ext o' H' o2 H2) X.xe s' := fun k st1 ec _ => by
            refine eq_own (f := ad) hr.in1.units0 I'.kIn J lb nb mt.at_ mt.fn ?_
            refine thn (run_at1 F hr hgd I' (us := [.ref a, u]) (vs := [.ref a, x]) (ws := []) (zs := []) (Q := fun v H2 => v = .bl k ∧ ∃ o2, Wd X.K o2 H2 st1 ∧ Ext o' H' o2 H2) (.cons rfl (.cons rx .nil)) .nil w' (.cons rpy (.cons rx' .nil)) .nil rfl rfl ?_) fun z s2 ⟨x1, H1, I1, rx1, ek, o2, w2, x2⟩ => ?_
            · show OutD X.K (wx X) o' H' (C f [y0, d] st') _
              rw [ec]
              exact fun v o2 H2 w2 x2 q => by
                cases q
                exact ⟨rfl, o2, w2, x2⟩
            · subst ek
              obtain rfl : z = Value.bool k := rx1
              exact ⟨rfl, o2, H1, I1, w2, x2⟩
          split at h'
          · rename_i st1 ec
            split at h'
            · rename_i es
              subst es
              refine eqBool_own (fun _ => .inl ⟨rfl, H', I', h' _ o' H' w' (.refl _ _) (.bl true)⟩) fun ne => ?_
              exact thn (go true _ ec ne) fun v s2 ⟨ev, o2, H2, I2, w2, x2⟩ => ⟨true, ev, .inl ⟨rfl, H2, I2, h' _ o2 H2 w2 x2 (.bl true)⟩⟩
            · exact h'.elim
          · rename_i st1 ec
            split at h'
            · rename_i ap
              refine eqBool_own (fun eu => ?_) fun ne => ?_
              · subst eu
                exfalso
                have key : ∀ (x0 : V), RelV x0 (Value.ref a) → x0 = .ref a := fun x0 h0 => by
                  cases x0 <;> first | (cases h0; rfl) | (cases h0; done) | (obtain ⟨_, q⟩ := h0; cases q)
                have := key _ rx
                subst this
                rcases ap with ap | ap
                · exact ap X pins σ H' s' o' st' _ I' w' rpy rx'
                · exact clsDiff_no (He.ba ob2) e0' rpy rx' ap
              · exact thn (go false _ ec ne) fun v s2 ⟨ev, o2, H2, I2, w2, x2⟩ => ⟨false, ev, .inr ⟨rfl, H2, o2, st1, I2, w2, x2.sub.f _ _ hF, rp.mono x2.sub, rx'.mono x2.sub, OutD.later h' w2 x2⟩⟩
            · exact h'.elim
          · exact h'.elim
        · exact h'.elim
    · rintro s' ⟨H', o', st', I', w', hF, rp, rx', h'⟩
      rw [rp.len, List.drop_length] at h'
      exact ⟨H', I', h' _ o' H' w' (.refl _ _) (.bl false)⟩
theorem or_inN (neg : Bool) {op : CmpOp} {tabE : List (Str × Str)} (hop : ∀ v u, compareOp op v u = (do let b ← contains u v; pure (.bool (b != neg)))) (hr : Room (lv + 1) X.A) (hgd : X.A.guards = some []) (hte : OwnOk X C lv anc "__eq__" tabE) (ht : OwnOk X C lv anc "__contains__" tab) (hg : OpR X (compareOp op) (rD2 X.K g)) : OpR X (compareOp op) (rDC X.K (wx X) C (oIn neg anc tabE tab g)) :=
  fun pins s σ H x y v u Q I rx ry ⟨o, st, d, e, w, r1, r2, h⟩ => by
  unfold oIn at h
  split at h
  · rename_i z e1
    exact hg pins s σ H x y v u Q I rx ry ⟨o, st, d, e, z, w, r1, r2, e1, h⟩
  · split at h
    · rename_i ys
      cases y with
      | ref p =>
        obtain rfl : u = Value.ref p := by
          have := ry
          cases this
          rfl
        rw [hop]
        refine wpAny_bind (thn (inT_ok hr hgd hte I rx w r1 r2 (tell_out h)) fun b s' ⟨H1, I1, k, ek, q⟩ => ?_)
        cases ek
        exact wpAny_pure ⟨.bl (b != neg), H1, I1, rfl, q⟩
      | _ => cases r2
    · rename_i ys
      cases y with
      | ref p =>
        obtain rfl : u = Value.ref p := by
          have := ry
          cases this
          rfl
        rw [hop]
        refine wpAny_bind (thn (inL_ok hr hgd hte I rx w r1 r2 (tell_out h)) fun b s' ⟨H1, I1, k, ek, q⟩ => ?_)
        cases ek
        exact wpAny_pure ⟨.bl (b != neg), H1, I1, rfl, q⟩
      | _ => cases r2
    · split at h
      · exact h.elim
      · rename_i f e1
        obtain ⟨c, e0, e1⟩ := Option.bind_eq_some_iff.mp e1
        obtain ⟨⟨cl, ad, mt, F⟩, _⟩ := ht c f e1
        obtain ⟨a, ox, od, rfl, rfl, J⟩ := inst_of I w ry r2 e0
        rw [hop]
        refine wpAny_bind (in_own (f := ad) I.kIn J mt.at_ mt.fn ?_)
        refine thn (run_at F (hr.mono (Nat.le_succ _)) hgd I (us := [.ref a, v]) (vs := [.ref a, x]) (ws := []) (zs := []) (.cons rfl (.cons rx .nil)) .nil w (.cons r2 (.cons r1 .nil)) .nil rfl rfl (tell_out h)) fun z s' ⟨x1, H1, I1, rx1, k, ek, q⟩ => ?_
        subst ek
        obtain rfl : z = Value.bool k := rx1
        exact ⟨k, rfl, wpAny_pure ⟨.bl (k != neg), H1, I1, rfl, q⟩⟩
theorem or_in {tabE : List (Str × Str)} (hr : Room (lv + 1) X.A) (hgd : X.A.guards = some []) (hte : OwnOk X C lv anc "__eq__" tabE) (ht : OwnOk X C lv anc "__contains__" tab) (hg : OpR X (compareOp .In) (rD2 X.K g)) : OpR X (compareOp .In) (rDC X.K (wx X) C (oIn false anc tabE tab g)) :=
  or_inN false (fun v u => by show (do let b ← contains u v; pure (Value.bool b)) = _; simp) hr hgd hte ht hg
theorem or_notIn {tabE : List (Str × Str)} (hr : Room (lv + 1) X.A) (hgd : X.A.guards = some []) (hte : OwnOk X C lv anc "__eq__" tabE) (ht : OwnOk X C lv anc "__contains__" tab) (hg : OpR X (compareOp .NotIn) (rD2 X.K g)) : OpR X (compareOp .NotIn) (rDC X.K (wx X) C (oIn true anc tabE tab g)) :=
  or_inN true (fun v u => by show (do let b ← contains u v; pure (Value.bool (!b))) = _; simp) hr hgd hte ht hg
/-! ### C(), C.m(..), C.f -/
structure Mk0 (K : PySem.W.Frag) (C : Addr) : Prop where
  makes : PySem.W.makesIn K C = true
  init : PySem.W.findIn K (.ref C) "__init__" = some (some (.builtin "object.__init__"))
  kp : PySem.W.keepIn K (.ref C) = true
variable {c : Str} {pos p : Pos}
theorem h_make0 (hm : X.mg c = some (.ref (He.ga X.K c))) (M : Mk0 X.K (He.ga X.K c)) (hg : Gl X c) (hdb : (c == ("__debug__" : Str)) = false) : HE X C (.Call (.Name c p) [] [] pos) (eMake0 c) := by
  refine ⟨fun pins s σ H Q I ⟨o, r, st, w, l, h⟩ => ?_⟩
  refine wpAny_Call_Name_kw (ld_glob I hg hm ?_ hdb)
  refine PySem.W.callWith_K0 (first := []) I.kIn M.kp ?_
  have hx := I.hok.fresh (Nat.le_succ s.heap.objs.size)
  have hd := I.hok.fresh (Nat.le_refl s.heap.objs.size)
  have ne : s.heap.objs.size ≠ s.heap.objs.size + 1 := Nat.ne_of_lt (Nat.lt_succ_self _)
  obtain ⟨w2, x2, rc, em⟩ := new_obj w hx hd ne c
  have I2 := Inv.made (C := He.ga X.K c) I
  refine wpAny_call (make_map0 I.kIn M.makes M.init (fun self => PySem.W.Looks.of_pure (PySem.W.oi_bind self)) ?_)
  have Y := PySem.W.makes_of (M := model X.prog X.w) I.kIn M.makes
  have e2 : ((s.heap.push PySem.W.emptyDict).push (PySem.W.instObj (He.ga X.K c) s.heap.objs.size)).get? (s.heap.objs.size + 1) = some (PySem.W.instObj (He.ga X.K c) s.heap.objs.size) := by
    have := Heap.get?_push_size (s.heap.push PySem.W.emptyDict) (o := PySem.W.instObj (He.ga X.K c) s.heap.objs.size) rfl
    rwa [Heap.size_push] at this
  have t1 : PySem.W.Looks (model X.prog X.w) ((s.heap.push PySem.W.emptyDict).push (PySem.W.instObj (He.ga X.K c) s.heap.objs.size)) (typeOf (.ref (s.heap.objs.size + 1))) (.ref (He.ga X.K c)) := (PySem.W.Looks.ld e2).andThen .now
  have t2 : PySem.W.Looks (model X.prog X.w) ((s.heap.push PySem.W.emptyDict).push (PySem.W.instObj (He.ga X.K c) s.heap.objs.size)) (isInstance (.ref (s.heap.objs.size + 1)) (.type "object")) true := t1.andThen (Y.top.keeps fun b o e => Heap.get?_push_of_some _ (Heap.get?_push_of_some _ e))
  refine codeAny_call_builtin PySem.W.oi_plain PySem.W.entry_oi (PySem.W.check_slot (i := "object.__init__") (owner := "object") (n := "__init__") (self := .ref (s.heap.objs.size + 1)) (rest := []) (kw := []) PySem.W.oi_kind PySem.W.oi_split t2 (PySem.W.oi_args _) ?_)
  rw [PySem.W.oi_run]
  have em' : ((o.put s.heap.objs.size (.own (s.heap.objs.size + 1))).more (s.heap.objs.size + 1)).m st.length = s.heap.objs.size + 1 := em
  obtain ⟨o4, w4, x4, r4⟩ := freeze_obj (i := st.length) (c := c) (ns := []) (xs := []) x2 (Nat.le_of_eq w.n) w2 (by rw [List.getElem?_append_right (Nat.le_refl _), Nat.sub_self]; rfl)
  rw [em'] at r4
  have es : (st ++ [Cel.obj c [] []]).set st.length .dead = st ++ [.dead] := by
    rw [List.set_append_right _ _ (Nat.le_refl _), Nat.sub_self]
    rfl
  rw [es] at w4
  exact wpAny_pure ⟨rfl, V.ref (s.heap.objs.size + 1), _, I2, rfl, h _ o4 _ w4 x4 r4⟩

open ClX
variable {m f : Str} {apos : Pos} {es : List Expr} {ss sk : SA} {kws : List Keyword} {n : Nat} {ks : List Str} {src : List Src} {pl : Sem Bool}
/-- C.m is a def of the class, or a staticmethod -/
def ClsFn (K : PySem.W.Frag) (C : Addr) (mc : Value) (m : Str) (a : Addr) : Prop := PySem.W.findCls K (.ref C) mc m = some (.val (.ref a)) ∨
  ∃ p rest, PySem.W.findCls K (.ref C) mc m = some (.get (.builtin "staticmethod.__get__") (.ref p) .none (.ref C)) ∧ PySem.W.recIn K p "staticmethod" = some (.ref a :: rest)
def CFunOk (X : Cx) (C : FEnv) (lv : Nat) (c m : Str) (n : Nat) (ks : List Str) (f : Str) (src : List Src) : Prop :=
  X.mg c = some (.ref (He.ga X.K c)) ∧ ∃ mc a, CRead X.K (He.ga X.K c) mc ∧ ClsFn X.K (He.ga X.K c) mc m a ∧ PySem.W.keepIn X.K (.ref a) = true ∧ RunAt X.prog X.w X.K X.mg X.base lv a n ks (fun ds es st => C f (src.map (pickD ds es)) st)
theorem h_cfun (hx : CFunOk X C lv c m n ks f src) (hr : Room lv X.A) (hgd : X.A.guards = some []) (hg : Gl X c) (hdb : (c == ("__debug__" : Str)) = false) (ha : HA X C es ss) (hk : HK X C kws sk) (hl : Long n ss) (hl2 : Long ks.length sk)
    (hnil : es = [] → ss = aNil) (hall : (backToKw pos (keywordEach kws X.env)).all (·.1.isSome) = true) (hks : (backToKw pos (keywordEach kws X.env)).filterMap (·.1) = ks)
    (he : ∀ e r, es = e :: r → starEach (e :: r) X.env = (false, eval e X.env) :: starEach r X.env)
    (hpl : ((backTo pos (starEach es X.env)).any (·.1) || (backToKw pos (keywordEach kws X.env)).any (·.1.isNone)) = false)
    (ht : eval (.Call (.Attribute (.Name c p) m apos) es kws pos) X.env = (do
      let ov ← eval (.Name c p) X.env
      standAt apos.atName
      let (f, first) ← holding [ov] (getMethod ov m pl)
      callWith pos f first (backTo pos (starEach es X.env)) (backToKw pos (keywordEach kws X.env)))) : HE X C (.Call (.Attribute (.Name c p) m apos) es kws pos) (eCallK f src ss sk) := by
  refine ⟨fun pins s σ H Q I ⟨o, r, st, w, l, h⟩ => ?_⟩
  obtain ⟨hm, mc, ad, R, fc, kp, F⟩ := hx
  refine PySem.W.methodCall_KW (pl := pl) (ld_glob I hg hm ?_ hdb) ht
  refine PySem.W.method_cls I.kIn R.ga ?_
  suffices go : wpAny (model X.prog X.w) X.A (callWith pos (.ref ad) [] (backTo pos (starEach es X.env)) (backToKw pos (keywordEach kws X.env))) (EP X pins σ Q) X.xe { s with toks := s.toks + 1 } by
    rcases fc with fc | ⟨pa, rest, fc, rc⟩
    · exact PySem.W.cls_value I.kIn R.rd fc (handed_of (v := .ref ad) rfl) go
    · exact PySem.W.cls_bind I.kIn R.rd fc (wpAny_call (PySem.W.sm_get (s := { s with toks := s.toks + 1 }) I.kIn rc (PySem.W.handed_on (handed_of (v := .ref ad) (u := .ref ad) rfl) go)))
  refine with_args (first := []) kp ha hk hnil hall hks he hpl (I.tok _) w l h fun us ws st1 st2 e1 e2 uv wv vs zs s2 H2 o2 I2 rv rz w2 x2 q1 q2 h => ?_
  exact run_at F hr hgd I2 rv rz w2 q1 q2 (hl _ _ _ _ _ e1) (hl2 _ _ _ _ _ e2) h
def CMetOk (X : Cx) (C : FEnv) (lv : Nat) (c m : Str) (n : Nat) (ks : List Str) (f : Str) (src : List Src) : Prop :=
  X.mg c = some (.ref (He.ga X.K c)) ∧ ∃ mc p a, CRead X.K (He.ga X.K c) mc ∧ CMet X.K (He.ga X.K c) mc m p a ∧ RunAt X.prog X.w X.K X.mg X.base lv a n ks (fun ds es st => C f (src.map (pickD ds es)) st)
theorem h_cmet {e : Expr} (hx : CMetOk X C lv c m (n + 1) [] f src) (hr : Room lv X.A) (hgd : X.A.guards = some []) (hg : Gl X c) (hdb : (c == ("__debug__" : Str)) = false) (ha : HA X C (e :: es) ss) (hl : Long n ss)
    (hst : starEach (e :: es) X.env = (false, eval e X.env) :: starEach es X.env) (hpl : (backTo pos (starEach es X.env)).any (·.1) = false)
    (ht : eval (.Call (.Attribute (.Name c p) m apos) (e :: es) [] pos) X.env = (do
      let ov ← eval (.Name c p) X.env
      standAt apos.atName
      let (f, first) ← holding [ov] (getMethod ov m pl)
      callWith pos f first (backTo pos (starEach (e :: es) X.env)) (backToKw pos (keywordEach [] X.env)))) : HE X C (.Call (.Attribute (.Name c p) m apos) (e :: es) [] pos) (eCallK f src (aCons (eC (.cls c)) ss) aNil) := by
  refine ⟨fun pins s σ H Q I ⟨o, r, st, w, l, h⟩ => ?_⟩
  have h : OutD X.K (wx X) o H (((ss C r st).bind fun us st => .ok (.cls c :: us) st).bind fun us st => C f (src.map (pickD us [])) st) Q := h
  rw [bind_bind'] at h
  obtain ⟨hm, mc, pa, ad, R, cm, F⟩ := hx
  refine PySem.W.methodCall_KW (pl := pl) (ld_glob I hg hm ?_ hdb) ht
  refine getmethcm_ok I R cm fun s2 I2 => ?_
  refine callwith_cm I2 (base_none I (Nat.le_refl _)) cm.fi (thn (ha.run pos _ s2 σ H (fun vs H1 => ∃ us st1 o1, ss C r st = .ok us st1 ∧ OutD X.K (wx X) o H (C f (src.map (pickD (.cls c :: us) [])) st1) Q ∧ Wd X.K o1 H1 st1 ∧ Ext o H o1 H1 ∧ Reps X.K o1 vs us) I2 ⟨o, r, st, w, l, h.b fun us st1 e1 h vs o1 H1 w1 x1 r1 => ⟨us, st1, o1, e1, h, w1, x1, r1⟩⟩) fun uv s3 ⟨vs, H2, I3, rv, us, st1, o1, e1, h, w1, x1, q1⟩ => ⟨⟨pin_at I3, I3.kIn⟩, ?_⟩) hst hpl
  · refine thn (wpAny_call (PySem.W.method_call (pin_at I3) (codeAny_mono (F X.A X.stack s3 H2 (.ref (He.ga X.K c) :: uv) [] (.ref (He.ga X.K c) :: vs) [] Q (wx X) hr hgd I3.env0 (.cons rfl rv) .nil ?_ rfl ⟨o1, .cls c :: us, [], st1, w1, .cons (.cls c) q1, .nil, OutD.later h w1 x1⟩) fun r s' hq => ?_))) fun _ _ y => unpinE (p := (s.heap.objs.size, PySem.W.methodObj (.ref ad) (.ref (He.ga X.K c)))) y
    · rw [List.length_cons, q1.len, hl _ _ _ _ _ e1]
    · cases r with
      | error e => exact wx_call I3 hq
      | ok fl =>
        cases fl with
        | ret u => exact I3.after hq
        | next => exact False.elim hq
        | brk => exact False.elim hq
        | cont => exact False.elim hq
def CConOk (X : Cx) (c f : Str) (d : D) : Prop := X.mg c = some (.ref (He.ga X.K c)) ∧ ∃ mc v u, CRead X.K (He.ga X.K c) mc ∧ CVal X.K (He.ga X.K c) mc f v u ∧ ∀ o, Rep X.K o v d
theorem h_ccon {d : D} (hx : CConOk X c f d) (hg : Gl X c) (hdb : (c == ("__debug__" : Str)) = false) : HE X C (.Attribute (.Name c p) f pos) (eC d) := by
  refine ⟨fun pins s σ H Q I ⟨o, r, st, w, l, h⟩ => ?_⟩
  obtain ⟨hm, mc, v, u, R, k, rp⟩ := hx
  refine attr_of rfl (ld_glob I hg hm ?_ hdb)
  exact getcval_ok I R k fun s2 I2 => ⟨v, H, I2, k.rel, h v o H w (.refl o H) (rp o)⟩
/-- a class that a name holds is called -/
def eMakeV (sx : SE) (tab : List (Str × Str × List Src)) (a k : SA) : SE := fun C r st => (sx C r st).bind fun d st => match d with
  | .cls c => match tab.lookup c with
    | some (f, src) => eMake c f src a k C r st
    | none => .bad
  | _ => .bad
theorem h_makeV {x : Str} {sx : SE} {tab : List (Str × Str × List Src)} (hx : HE X C (.Name x p) sx) (ht : ∀ c f src, tab.lookup c = some (f, src) → MkOk X C lv c n ks f src) (hr : Room (lv + 1) X.A) (hgd : X.A.guards = some []) (ha : HA X C es ss) (hk : HK X C kws sk) (hl : Long n ss) (hl2 : Long ks.length sk)
    (hnil : es = [] → ss = aNil) (hall : (backToKw pos (keywordEach kws X.env)).all (·.1.isSome) = true) (hks : (backToKw pos (keywordEach kws X.env)).filterMap (·.1) = ks)
    (he : ∀ e r, es = e :: r → starEach (e :: r) X.env = (false, eval e X.env) :: starEach r X.env)
    (hpl : ((backTo pos (starEach es X.env)).any (·.1) || (backToKw pos (keywordEach kws X.env)).any (·.1.isNone)) = false) :
    HE X C (.Call (.Name x p) es kws pos) (eMakeV sx tab ss sk) := by
  refine ⟨fun pins s σ H Q I ⟨o, r, st, w, l, h⟩ => ?_⟩
  refine wpAny_Call_Name_kw (thn (start_e hx I w l h) fun u s1 ⟨xv, H1, I1, rx, d, st0, o1, e0, h, w1, x1, r1⟩ => ?_)
  cases d with
  | cls c =>
    simp only at h
    split at h
    · rename_i f src et
      obtain ⟨hm, ad, M, F⟩ := ht c f src et
      cases r1
      obtain rfl : u = Value.ref (He.ga X.K c) := rx
      refine with_args (first := []) M.kp ha hk hnil hall hks he hpl I1 w1 (l.ext x1) (OutD.later h w1 x1) fun us ws st1 st2 e1 e2 uv wv vs zs s2 H2 o2 I2 rv rz w2 x2 q1 q2 h => ?_
      exact run_mk M F hr hgd I2 rv rz w2 q1 q2 (hl _ _ _ _ _ e1) (hl2 _ _ _ _ _ e2) h
    · exact h.elim
  | _ => exact h.elim

/-! ### str and repr -/
def eBltC (g : FEnv → List D → Store → Res D) (a : SA) : SE := fun C r st => (a C r st).bind fun ds st => g C ds st
def tellS (v : D) (st : Store) : Res D := match v with
  | .str x => .ok (.str x) st
  | _ => .bad
def oText (tab : List (Str × Str)) (g : List D → Option D) : FEnv → List D → Store → Res D := fun C ds st => match g ds with
  | some v => .ok v st
  | none => match ds with
    | [d] => (match (ownNm d).bind fun c => tab.lookup c with
      | none => .bad
      | some f => (C f [d] st).bind fun v st => tellS v st)
    | _ => .bad
def rDsC (K : PySem.W.Frag) (E : XK) (C : FEnv) (g : FEnv → List D → Store → Res D) : List V → Hp → VK → Prop := fun xs H Q => ∃ o st ds, Wd K o H st ∧ Reps K o xs ds ∧ OutD K E o H (g C ds st) Q
theorem h_callBC {a : Expr} {x : Str} {id : String} {g : FEnv → List D → Store → Res D} (hc : CallR X (.builtin id) (rDsC X.K (wx X) C g)) (hg : Gl X x) (hm : X.mg x = none) (hv : bootBuiltins x = some (.builtin id)) (ha : HA X C (a :: es) ss) (hn : x ≠ "__name__") (hdb : (x == ("__debug__" : Str)) = false)
    (he : starEach (a :: es) X.env = (false, eval a X.env) :: starEach es X.env) (hpl : (backTo pos (starEach es X.env)).any (·.1) = false) : HE X C (.Call (.Name x p) (a :: es) [] pos) (eBltC g ss) :=
  pe_by (pe_callB hc hg hm hv ha hn hdb he hpl) fun s H Q ⟨o, r, st, w, l, h⟩ => by
    exact ⟨o, r, st, w, l, OutR.b h fun ds st1 e1 h xs o1 H1 w1 x1 r1 => ⟨o1, st1, ds, w1, r1, OutD.later h w1 x1⟩⟩
theorem h_callTC {a : Expr} {x : Str} {T : String} {g : FEnv → List D → Store → Res D} (hc : CallR X (.type T) (rDsC X.K (wx X) C g)) (hg : Gl X x) (hm : X.mg x = none) (hv : bootBuiltins x = some (.type T)) (ha : HA X C (a :: es) ss) (hn : x ≠ "__name__") (hdb : (x == ("__debug__" : Str)) = false)
    (he : starEach (a :: es) X.env = (false, eval a X.env) :: starEach es X.env) (hpl : (backTo pos (starEach es X.env)).any (·.1) = false) : HE X C (.Call (.Name x p) (a :: es) [] pos) (eBltC g ss) :=
  pe_by (pe_callTy hc hg hm hv ha hn hdb he hpl) fun s H Q ⟨o, r, st, w, l, h⟩ => by
    exact ⟨o, r, st, w, l, OutR.b h fun ds st1 e1 h xs o1 H1 w1 x1 r1 => ⟨o1, st1, ds, w1, r1, OutD.later h w1 x1⟩⟩
open PySem.W in
theorem repr_own' {prog : Program} {w : World} {A : Around} {E : Value → Shared → Prop} {s : Shared} {K : Frag} {x C f : Addr} {ox : Obj} {od : Option Obj} {Q : Value → Shared → Prop} (hu : A.in1.units < cLine) (X : K.In s.heap) (I : InstAt s.heap x ox C od) (hs : findIn K (.ref C) "__repr__" = some (some (.ref f))) (hf : isFn K (.ref f) = true)
    (h : wpAny (model prog w) A.in1 (call (.ref f) [.ref x]) (StrBack Q) E s) : wpAny (model prog w) A (call (.builtin "repr") [.ref x]) Q E s := by
  refine Calls.call_function_entry PySem.F.kind_repr PySem.F.plain_repr PySem.F.entry_repr (PySem.F.args_repr1 _) ?_
  unfold Builtin.«repr»
  refine wpAny_bind (m := oneArg "repr" _) (wpAny_pure (wpAny_bind (wpAny_cRoomFor hu (wpAny_bind (wpAny_bind (I.type.here ((looks_findIn X hs).here ?_)))))))
  show wpAny _ _ (if (some (Value.ref f)).isNone = true then _ else _) _ _ _
  rw [if_neg (by simp)]
  refine wpAny_bind (m := callSpecialIfBound? (.ref x) (Str.ofString "__repr__") _) (ifBound_K X I hs hf (wpAny_mono h (fun r s' hr => ?_) fun _ _ y => y))
  cases r <;> first | exact hr.elim | skip
  refine wpAny_bind (wpAny_isInstance (typeIs_str _ _ _) isSubtype_str_str ?_)
  first
    | exact wpAny_pure ⟨_, rfl, hr⟩
    | (rw [if_pos rfl]; exact wpAny_pure ⟨_, rfl, hr⟩)
    | (simp only [if_true]; exact wpAny_pure ⟨_, rfl, hr⟩)
def OwnOk1 (X : Cx) (C : FEnv) (lv : Nat) (m : Str) (tab : List (Str × Str)) : Prop := ∀ c f, tab.lookup c = some f → MethOk X C lv c m 1 [] f [.pos 0]
theorem tellS_out {K : PySem.W.Frag} {E : XK} {o : Wo} {H : Hp} {r : Res D} {Q : VK} (h : OutD K E o H (r.bind fun v st => tellS v st) Q) : OutD K E o H r (fun v H' => ∃ x, v = .str x ∧ Q (.str x) H') := by
  cases r with
  | ok d st =>
    have h : OutD K E o H (tellS d st) Q := h
    unfold tellS at h
    split at h
    · intro v o' H' w e q
      cases q
      exact ⟨_, rfl, h _ o' H' w e (.str _)⟩
    · exact h.elim
  | exc _ _ => exact h
  | bad => exact h
theorem or_text {fv : Value} {m : Str} {tab : List (Str × Str)} {g : List D → Option D} (hr : Room (lv + 1) X.A) (hgd : X.A.guards = some []) (ht : OwnOk1 X C lv m tab) (hg : CallR X fv (rDs X.K g))
    (hown : ∀ {s : Shared} {a ad c : Addr} {ox : Obj} {od : Option Obj} {Q : Value → Shared → Prop}, X.K.In s.heap → PySem.W.InstAt s.heap a ox c od → PySem.W.findIn X.K (.ref c) m = some (some (.ref ad)) → PySem.W.isFn X.K (.ref ad) = true →
      (∃ A', Room lv A' ∧ A'.guards = some [] ∧ (∀ s H, Env0 X.prog X.w X.K X.mg X.base X.A X.stack s H → Env0 X.prog X.w X.K X.mg X.base A' X.stack s H) ∧ (wpAny (model X.prog X.w) A' (call (.ref ad) [.ref a]) (PySem.W.StrBack Q) X.xe s → wpAny (model X.prog X.w) X.A (call fv [.ref a]) Q X.xe s))) :
    CallR X fv (rDsC X.K (wx X) C (oText tab g)) := fun pins s σ H xs us Q I rv ⟨o, st, ds, w, rs, h⟩ => by
  unfold oText at h
  split at h
  · rename_i z e1
    exact hg pins s σ H xs us Q I rv ⟨o, st, ds, z, w, rs, e1, h⟩
  · split at h
    · rename_i d hn0
      split at h
      · exact h.elim
      · rename_i f e1
        obtain ⟨c, e0, e1⟩ := Option.bind_eq_some_iff.mp e1
        obtain ⟨v, rfl, r1⟩ := reps1 rs
        cases rv with
        | cons rx rn =>
          cases rn
          obtain ⟨cl, ad, mt, F⟩ := ht c f e1
          obtain ⟨a, ox, od, rfl, rfl, J⟩ := inst_of I w rx r1 e0
          obtain ⟨A', hr', hgd', henv, go⟩ := hown (Q := EP X pins σ Q) I.kIn J mt.at_ mt.fn
          refine go ?_
          refine wpAny_call (codeAny_mono (F A' X.stack s H [.ref a] [] [.ref a] [] (fun v H' => ∃ x, v = .str x ∧ Q (.str x) H') (wx X) hr' hgd' (henv _ _ I.env0) (.cons rfl .nil) .nil rfl rfl ⟨o, [d], [], st, w, .cons r1 .nil, .nil, tellS_out h⟩) fun r s' hq => ?_)
          cases r with
          | error e => exact wx_call I hq
          | ok fl =>
            cases fl with
            | ret u =>
              obtain ⟨v, H', I3, rv', x, ex, q3⟩ := I.after hq
              subst ex
              obtain ⟨t, rfl⟩ := (show ∃ t, u = Value.str x t from rv')
              exact ⟨.str x, H', I3, ⟨t, rfl⟩, q3⟩
            | next => exact False.elim hq
            | brk => exact False.elim hq
            | cont => exact False.elim hq
    · exact h.elim
theorem or_repr {tab : List (Str × Str)} {g : List D → Option D} (hr : Room (lv + 1) X.A) (hgd : X.A.guards = some []) (ht : OwnOk1 X C lv "__repr__" tab) (hg : CallR X (.builtin "repr") (rDs X.K g)) : CallR X (.builtin "repr") (rDsC X.K (wx X) C (oText tab g)) :=
  or_text hr hgd ht hg fun {s a ad c ox od Q} kx J h1 h2 => ⟨X.A.in1, hr.in1, hgd, fun s H e => e.in1, fun h => repr_own' hr.in1.units0 kx J h1 h2 h⟩
theorem or_str {tab : List (Str × Str)} {g : List D → Option D} (hr : Room (lv + 1) X.A) (hgd : X.A.guards = some []) (ht : OwnOk1 X C lv "__str__" tab) (hg : CallR X (.type "str") (rDs X.K g)) : CallR X (.type "str") (rDsC X.K (wx X) C (oText tab g)) := by
  have r2 : Room lv X.A.in1.in1 := ⟨hr.hd, by have := hr.dp; show X.A.depth + 3 * lv + 5 < _; omega, by have := hr.un; show X.A.units + 1 + 1 + 16 * lv + 200 < _; omega⟩
  exact or_text hr hgd ht hg fun {s a ad c ox od Q} kx J h1 h2 => ⟨X.A.in1.in1, r2, hgd, fun s H e => e.in1.in1, fun h => PySem.W.kso_call r2.units0 kx J h1 h2 h⟩

/-! ### a constant dict: K[e] -/
def dKey (kvs : List (Str × D)) : D → Option D
  | .str k => kvs.lookup k
  | _ => none
def DcOk (X : Cx) (c : Str) (kvs : List (Str × D)) : Prop := X.mg c = some (.ref (He.ga X.K c)) ∧ ∃ f : Str → Option Value, (∀ h : Heap, X.K.In h → h.MapOf (strKind X.prog X.w) (He.ga X.K c) f) ∧ (∀ k d, kvs.lookup k = some d → ∃ u v, f k = some u ∧ RelV v u ∧ ∀ o, Rep X.K o v d) ∧ (∀ k, kvs.lookup k = none → f k = none) ∧ (He.ga X.K c == sysModules) = false
theorem ix_key {f : Str → Option Value} (hm : ∀ h : Heap, X.K.In h → h.MapOf (strKind X.prog X.w) (He.ga X.K c) f) : IxR X (fun x y H Q => ∃ k v u, x = .ref (He.ga X.K c) ∧ y = .str k ∧ f k = some u ∧ RelV v u ∧ Q v H) := by
  intro value slice pins s σ H x y v u Q I rx ry ⟨k, v', u', ex, ey, hf, rv, q⟩ hs
  subst ex ey
  obtain rfl : v = Value.ref (He.ga X.K c) := rx
  obtain ⟨t, rfl⟩ := (show ∃ t, u = Value.str k t from ry)
  refine tail_any (hm s.heap I.kIn).typeIs slot_dict_getitem.lookup (wpAny_getItem_of (knd := strKind X.prog X.w) (k := k) ?_ (hm s.heap I.kIn) hf ⟨v', H, I.tok _, rv, q⟩) hs
  show Value.isStrOf k (.str k t) = true
  simp [Value.isStrOf]
theorem h_key {b : Expr} {sb : SE} {kvs : List (Str × D)} (hx : DcOk X c kvs) (hg : Gl X c) (hdb : (c == ("__debug__" : Str)) = false) (hb : HE X C b sb) (hs : PlainIx b) : HE X C (.Subscript (.Name c p) b pos) (eUn (dKey kvs) sb) := by
  obtain ⟨hm, f, mo, hv, _⟩ := hx
  refine pe_by (pe_ix (ix_key mo) (pe_glob (v := .ref (He.ga X.K c)) hg hm rfl hdb) hb hs) fun s H Q ⟨o, r, st, w, l, h⟩ => ?_
  refine ⟨o, r, st, w, l, OutR.b h fun d st1 e1 h y o1 H1 w1 x1 r1 => ?_⟩
  obtain ⟨z, e2, hz⟩ := h.lift
  cases d with
  | str k =>
    cases r1
    obtain ⟨u, v, a1, a2, a3⟩ := hv k z e2
    exact ⟨k, v, u, rfl, rfl, a1, a2, hz v o1 H1 w1 x1 (a3 o1)⟩
  | _ => cases e2
end
end DS
namespace DS
open PySem L2 PyProof.Rows
/-! ## raise C(e) -/
def sRaise (c f : Str) (e : SE) : SS := fun C r st => (e C r st).bind fun d st => .exc (.obj c [f] [d]) st
/-- what __init__ of such a class does: self.f = v -/
def spX (C : Addr) (f : Str) : L2.Sp := fun vs H Q _ => ∃ a v, vs = [.ref a, v] ∧ H a = some (exo a C none) ∧ ∀ dx, H dx = none → dx ≠ a → Q .non (upd (upd H dx (exd dx [(f, v)])) a (exo a C (some dx)))
structure XcOk (X : Cx) (c f : Str) : Prop where
  mg : X.mg c = some (.ref (He.ga X.K c))
  oex : OexC X.K (He.ga X.K c)
  ini : ∃ (fI : Addr) (fd : FuncData) (s x : Str), PySem.W.findIn X.K (.ref (He.ga X.K c)) "__init__" = some (some (.ref fI)) ∧ PySem.W.typeIn X.K (.ref fI) = some (.type "function") ∧
    FnOk X.prog X.w X.K X.mg X.base (L2.CX X.prog X.w) 1 fI fd [s, x] (spX (He.ga X.K c) f) ∧ Binds X.K fd [s, x] []
section
variable {X : Cx} {C : FEnv} {e : Expr} {sa : SE} {c f : Str} {p pos pos' : Pos}
theorem h_raise (hx : XcOk X c f) (hr : Room 2 X.A) (hc : X.calm = true) (hg : Gl X c) (hdb : (c == ("__debug__" : Str)) = false) (he : HE X C e sa) (hs : starEach [e] X.env = (false, eval e X.env) :: starEach [] X.env) : HS X C (.Raise (some (.Call (.Name c p) [e] [] pos)) none pos') (sRaise c f sa) := by
  obtain ⟨hm, T, fI, fd, sn, xn, iC, tI, F1, hb⟩ := hx
  refine ps_by (ps_raise hc (wx_takes X) (pmk_oex (CX := L2.CX X.prog X.w) (ds := []) (dvs := []) T iC tI F1 hr hb .nil (fun pins σ H s e s' I z => passes_call (wx_takes X) (fun _ _ _ _ h => (show False from h).elim) pins σ H s e s' I z) hg hm (h_acons he h_anil hs) hdb hs rfl)) fun D s H ⟨o0, H0, o, r, st, q, h⟩ => ?_
  refine ⟨o, r, st, q.wd, q.loc, ?_⟩
  unfold sRaise at h
  unfold aCons aNil
  cases e1 : sa C r st with
  | exc y st1 => rw [e1] at h; exact q.x y st1 h
  | bad => rw [e1] at h; exact h.elim
  | ok d st1 =>
    rw [e1] at h
    intro vs o' H' w' x' rv
    obtain ⟨v, rfl, rv1⟩ := reps1 rv
    refine ⟨by simp, fun a ha => ⟨a, v, rfl, upd_same, fun dx hdx ne => ?_⟩⟩
    have hd' : H' dx = none := by rw [upd_ne ne] at hdx; exact hdx
    refine ⟨rfl, dx, [(f, v)], upd_same, by rw [upd_ne ne, upd_same], hd', ?_⟩
    have eH : upd (del (upd (upd (upd H' a (exo a (He.ga X.K c) none)) dx (exd dx [(f, v)])) a (exo a (He.ga X.K c) (some dx))) a) dx (.xd [(f, v)]) = upd H' dx (.xd [(f, v)]) := by
      funext b
      by_cases e1 : b = dx
      · subst e1; rw [upd_same, upd_same]
      · rw [upd_ne e1, upd_ne e1]
        by_cases e2 : b = a
        · subst e2; rw [del_same, ha]
        · rw [del_ne e2, upd_ne e2, upd_ne e1, upd_ne e2]
    show wx X _ _ (upd (del (upd (upd (upd H' a _) dx _) a _) a) dx _)
    rw [eH]
    have gr : ∀ b u, H' b = some u → upd H' dx (.xd [(f, v)]) b = some u := fun b u z => by rw [upd_ne (ne_of_none z hd')]; exact z
    exact (q.x _ _ h) _ _ o' _ (w'.grow gr) (x'.trans w' (Ext.grow gr)) ⟨c, [f], [d], rfl, rfl, .inr ⟨dx, [v], rfl, upd_same, rfl, .cons rv1 .nil⟩⟩
end
/-- its __init__: self.f = x -/
theorem xinit_ok {P : Program} {w : World} {K : PySem.W.Frag} {mg : Str → Option Value} {base : Heap} {name qual : Str} {params : Arguments} {scope : Scope} {dvs : List V} {kws : List (Str × V)} {fI : Addr} {fd : FuncData} {s x f : Str} {p1 p2 p3 p4 : Pos} {C : Addr}
    (F : FunD K name qual params [.Assign [.Attribute (.Name s p1) f p2] (.Name x p3) p4] scope dvs kws fI fd) (S : FnScope [s, x] [s, x] scope) (hs : (s == ("__debug__" : Str)) = false ∧ (s == ("__classdict__" : Str)) = false) (hx : (x == ("__debug__" : Str)) = false ∧ (x == ("__classdict__" : Str)) = false) (T : OexC K C) (hno : PySem.W.findIn K (.ref C) f = some none) :
    FnOk P w K mg base (L2.CX P w) 1 fI fd [s, x] (spX C f) := by
  obtain ⟨oc, od, dV, kV, doc, pm, an, cdv, ct, osl, rfl, lk, hcd, _, _⟩ := F.ex
  have vis : ∀ y, y ∈ [s, x] → Vis scope y := fun y hy => by
    rcases S.par y hy with k | k
    · exact .inl k
    · exact .inr (.inl k)
  refine fn_of lk hcd S (fun vs H Q E ⟨a, v, e, _⟩ => by rw [e]; rfl) fun A outer s' H vs Q E hr hsp => ?_
  obtain ⟨a, v, rfl, ha, hq⟩ := hsp
  refine ⟨_, pss_one (ps_ost (X := cxOf (L2.CX P w) P w K mg base [s, x] qual scope fI cdv A outer s' H E) (pe_var (i := 0) rfl (vis s (by simp)) hs.1 hs.2) (pe_var (i := 1) rfl (vis x (by simp)) hx.1 hx.2)), ?_⟩
  exact ⟨v, rfl, .ref a, rfl, a, C, rfl, T, hno, .inl ⟨ha, fun dx h1 h2 => hq dx h1 h2⟩⟩
end DS
namespace DS
open PySem L2 PyProof.Rows
/-! ## a, *b = t -/
theorem vals_take : ∀ (i : Nat) {vs : List V} {us : List Value}, Vals vs us → Vals (vs.take i) (us.take i)
  | 0, _, _, _ => .nil
  | _ + 1, _, _, .nil => .nil
  | i + 1, _, _, .cons a b => .cons a (vals_take i b)
theorem vals_drop : ∀ (i : Nat) {vs : List V} {us : List Value}, Vals vs us → Vals (vs.drop i) (us.drop i)
  | 0, _, _, h => h
  | _ + 1, _, _, .nil => .nil
  | i + 1, _, _, .cons _ b => vals_drop i b
section
variable {X : Cx} {pins : List (Addr × Obj)} {σ : L2.St} {H : Hp} {s : Shared}
open PySem.W in
theorem unpack_star {l : Addr} {xs : List V} {i : Nat} {Q : List Value → Shared → Prop} {E : Value → Shared → Prop} (I : Inv X pins σ H s) (hq : SqT X.K H l xs) (hh : X.A.handled = none) (hi : i ≤ xs.length) (hz : xs.length ≤ 16384)
    (h : ∀ D us s', H D = none → Inv X pins σ (upd H D (.lst (xs.drop i))) s' → Vals (xs.take i ++ [V.ref D]) us → Q us s') : wpAny (model X.prog X.w) X.A (unpackItems (.ref l) (i + 1) (some i)) Q E s := by
  obtain ⟨its, rv, hl, _⟩ := I.tuple hq
  have el : its.length = xs.length := rv.length.symm
  have hlt : l ≠ s.heap.objs.size := by obtain ⟨o, ho, _⟩ := hl; exact Nat.ne_of_lt (Heap.lt_size ho)
  have sz : its.toArray.size = xs.length := by simpa using el
  unfold unpackItems
  refine wpAny_bind ?_
  unfold notIterableAtAll
  refine wpAny_bind (wpAny_specialOf hl.typeIs slot_tuple_iter.lookup ?_)
  refine wpAny_pure ?_
  simp only [Bool.false_eq_true, if_false]
  refine wpAny_bind (wpAny_holding (iter_tuple hl ?_))
  refine wpAny_bind (wpAny_holding (draw_tuple hlt i 0 _ _ ⟨_, Heap.get?_push_size _ rfl, rfl, rfl⟩ (hl.push _) (by omega) fun h₁ hit₁ hs₁ => ?_))
  have hl₁ : IsTup h₁ l its.toArray := (hl.push _).extBut hs₁.extBut hlt
  rw [Nat.zero_add] at hit₁
  have hit₁' := hit₁
  obtain ⟨oi, hoi, _⟩ := hit₁'
  have hl₁' := hl₁
  obtain ⟨ol, hol, _⟩ := hl₁'
  rw [List.drop_zero]
  have hfl : (its.toArray.toList.take i).length = i := by rw [List.length_take, Array.length_toList]; omega
  rw [if_neg (show ¬ ((its.toArray.toList.take i).length < i) by rw [hfl]; omega)]
  refine wpAny_bind (wpAny_holding (kun_collect (s := { s with heap := h₁ }) (T := "tuple_iterator") (.inr (.inr (.inr rfl))) (Walks.tuple (A := X.A.in1) hh s.heap.objs.size l hlt its.toArray) (fun j u st => st.1.typeIs) (k := i) (by omega) ⟨hit₁, hl₁⟩ (Heap.lt_size hoi) (Heap.lt_size hol) (fun h₂ tk hk => ?_) (by rw [sizeLine_eq]; omega)))
  have hrl : (its.toArray.toList.drop i).length = its.toArray.size - i := by rw [List.length_drop, Array.length_toList]
  show wpAny _ _ (if (its.toArray.toList.drop i).length < i + 1 - 1 - i then _ else _) _ _ _
  rw [if_neg (by rw [hrl]; omega)]
  show wpAny _ _ (newList ((its.toArray.toList.drop i).take ((its.toArray.toList.drop i).length - (i + 1 - 1 - i))) >>= fun d => pure (its.toArray.toList.take i ++ [d] ++ (its.toArray.toList.drop i).drop ((its.toArray.toList.drop i).length - (i + 1 - 1 - i)))) _ _ _
  have e0 : i + 1 - 1 - i = 0 := by omega
  rw [e0, Nat.sub_zero, List.take_length, List.drop_length]
  simp only [List.toList_toArray, List.append_nil]
  have he : Heap.ExtBut s.heap.objs.size s.heap h₂ := fun b o hb e => hk b o hb (hs₁.extBut b o hb (Heap.get?_push_of_some _ e))
  have kp : ∀ b o, s.heap.get? b = some o → h₂.get? b = some o := fun b o e => he b o (Nat.ne_of_lt (Heap.lt_size e)) e
  have I2 : Inv X pins σ H { s with heap := h₂, toks := tk } := I.kept kp
  have lz : (xs.drop i).length ≤ sizeLine := by rw [List.length_drop, sizeLine_eq]; omega
  have vd := vals_drop i rv
  have hf : H h₂.objs.size = none := I2.hok.fresh (Nat.le_refl _)
  refine wpAny_bind (wpAny_newList (wpAny_pure (h h₂.objs.size _ _ hf (I2.laid (t' := tk) (fun b u e => Heap.get?_push_of_some _ e) (Nat.le_refl _) ⟨lz, _, 0, vd, Heap.get?_push_size _ rfl⟩) ((vals_take i rv).append (.cons rfl .nil)))) (by rw [← vd.length]; exact lz))
variable {C : FEnv} {pos : Pos}
def gStarT (ts : List Tg) : SG := fun _ d r st => match d with
  | .tup ds => if ts.length ≤ ds.length + 1 ∧ ds.length ≤ 16384 ∧ 0 < ts.length then lift (bindTs ts (ds.take (ts.length - 1) ++ [.lst (ds.drop (ts.length - 1))]) r) st else .bad
  | _ => .bad
theorem h_gstar {es es' : List Expr} {k : Nat} {ts : List Tg} (hc : X.calm = true) (h : PGs X es (tTgs X.K ts)) (he : (assignEach es' X.env).map (·.2) = (assignEach es X.env).map (·.2)) (hn : (assignEach es' X.env).length = ts.length) (hst : (assignEach es' X.env).findIdx? (·.1) = some (ts.length - 1)) :
    HG X C (.Tuple es' k pos) (gStarT ts) := by
  refine ⟨fun pins s σ H v u Q I rv ⟨o0, H0, o, r, st, d, q, rp, hw⟩ => ?_⟩
  cases d with
  | tup ds =>
    unfold gStarT at hw
    simp only at hw
    split at hw
    · rename_i c
      obtain ⟨r', eb, hw⟩ := OutR.lift hw
      cases rp with
      | tup a b =>
        cases rv
        rw [assign_Tuple]
        refine wpAny_bind (wpAny_standAt ?_)
        unfold unpack
        rw [hn, hst]
        have e1 : ts.length - 1 + 1 = ts.length := by omega
        rw [← e1]
        have bl := b.len
        refine wpAny_bind (wpAny_holding (unpack_star I (sqT_up q.wd a) (I.ok.hd hc) (by omega) (by omega) fun D us s' nD I' rv' => ?_))
        rw [he]
        refine h.run pins s' σ _ _ us Q I' rv' ⟨o.put D (.lst _), st, r, _, r', put_wd q.wd nD, q.loc.ext (put_ext q.wd nD), ((b.mono (put_sub q.wd nD)).take _).app (.cons (.lst upd_same ((b.mono (put_sub q.wd nD)).drop _)) .nil), eb, fun σ' l' k' => ?_⟩
        refine hw _ σ' _ ⟨put_wd q.wd nD, q.ext.trans q.wd (put_ext q.wd nD), l', fun j xs p h1 h2 => ?_⟩ (put_sub q.wd nD)
        obtain ⟨a1, b1⟩ := own_bindTs ts _ r r' eb j xs h1
        rw [k' j b1] at h2
        exact q.fresh j xs p a1 h2
    · exact hw.elim
  | _ => exact hw.elim
end
end DS
namespace DS
open PySem L2 PyProof.Rows
/-! ## list(..), tuple(..), join, startswith, index -/
def dList : List D → Option D
  | [.tup ds] => some (.lst ds)
  | [.lst ds] => some (.lst ds)
  | _ => none
def dTuple : List D → Option D
  | [.lst ds] => some (.tup ds)
  | [.tup ds] => some (.tup ds)
  | _ => none
def strsD : List D → Option (List Str)
  | [] => some []
  | .str x :: r => (strsD r).map (x :: ·)
  | _ :: _ => none
def dJoin : D → D → Option D
  | .str a, .lst ds => (strsD ds).bind fun ys => if (ys.map (·.length)).sum + ys.length * a.length ≤ 16777216 then some (.str (Txt.join a ys)) else none
  | _, _ => none
def dStarts : D → D → Option D
  | .str a, .str b => some (.bl (Txt.startswith a b))
  | _, _ => none
/-- the first place at which it stands -/
def atF (y : D) : List D → Option Nat
  | [] => none
  | z :: zs => if eqF z y = true then some 0 else (atF y zs).map (· + 1)
def dIndex : D → D → Option D
  | .lst ds, y => if flatD y = true ∧ ds.all flatD = true then (atF y ds).map fun j => .int (j : Nat) else none
  | _, _ => none
theorem strs_rep {K : PySem.W.Frag} {o : Wo} : ∀ {ds : List D} {ys : List Str} {vs : List V}, strsD ds = some ys → Reps K o vs ds → vs = ys.map V.str
  | [], ys, vs, h, r => by cases h; cases r; rfl
  | d :: ds, ys, vs, h, r => by
    cases d with
    | str x =>
      obtain ⟨zs, e1, e2⟩ := Option.map_eq_some_iff.mp (show (strsD ds).map (x :: ·) = some ys from h)
      subst e2
      cases r with
      | cons a b =>
        cases a
        rw [strs_rep e1 b]
        rfl
    | _ => cases h
theorem atF_at : ∀ {y : D} {ds : List D} {j : Nat}, atF y ds = some j → ∃ z, ds[j]? = some z ∧ eqF z y = true ∧ ∀ m z', m < j → ds[m]? = some z' → eqF z' y = false
  | y, [], j, h => by cases h
  | y, z :: zs, j, h => by
    unfold atF at h
    split at h
    · rename_i c
      cases h
      exact ⟨z, rfl, c, fun m z' hm => absurd hm (Nat.not_lt_zero _)⟩
    · rename_i c
      obtain ⟨k, e1, e2⟩ := Option.map_eq_some_iff.mp h
      subst e2
      obtain ⟨z1, a1, a2, a3⟩ := atF_at e1
      refine ⟨z1, by simpa using a1, a2, fun m z' hm hz => ?_⟩
      cases m with
      | zero =>
        have : z = z' := by simpa using hz
        rw [← this]
        exact Bool.eq_false_iff.mpr c
      | succ m => exact a3 m z' (by omega) (by simpa using hz)
section
variable {X : Cx} {C : FEnv} {o e : Expr} {so se : SE} {apos pos : Pos}
theorem call_dList : CallR X (.type "list") (rDs X.K dList) := cby call_list_of fun xs H Q ⟨o, st, ds, r, w, rs, eg, k⟩ => by
  unfold dList at eg
  split at eg
  · cases eg
    obtain ⟨v, rfl, r1⟩ := reps1 rs
    cases r1 with
    | tup a b => exact ⟨_, _, rfl, .inr (sqT_up w a), fun l nl => Ret.lst k w b nl⟩
  · cases eg
    obtain ⟨v, rfl, r1⟩ := reps1 rs
    cases r1 with
    | lst a b => exact ⟨_, _, rfl, .inl (SqL.of (w.sub _ _ a)), fun l nl => Ret.lst k w b nl⟩
  · cases eg
theorem call_dTuple : CallR X (.type "tuple") (rDs X.K dTuple) := cby call_tuple_of fun xs H Q ⟨o, st, ds, r, w, rs, eg, k⟩ => by
  unfold dTuple at eg
  split at eg
  · cases eg
    obtain ⟨v, rfl, r1⟩ := reps1 rs
    cases r1 with
    | lst a b => exact ⟨_, _, rfl, .inl ⟨SqL.of (w.sub _ _ a), fun l nl => Ret.tup k w b nl⟩⟩
  · cases eg
    obtain ⟨v, rfl, r1⟩ := reps1 rs
    cases r1 with
    | tup a b => exact ⟨_, _, rfl, .inr ⟨sqT_up w a, k.same w (.tup a b)⟩⟩
  · cases eg
theorem m_join : MtR X "str.join" (rM1 X.K dJoin) := fun pins s σ H x xs v us Q I rx rs ⟨y, hy, o, st, d, e, r, w, r1, r2, eg, k⟩ => by
  subst hy
  unfold dJoin at eg
  split at eg
  · obtain ⟨ys, e1, eg⟩ := Option.bind_eq_some_iff.mp eg
    split at eg
    · rename_i c
      cases eg
      cases r1
      cases r2 with
      | lst a b =>
        refine mt_join pins s σ H _ _ v us Q I rx rs ⟨_, _, ys, rfl, rfl, .inl ?_, c, k.same w (.str _)⟩
        rw [← strs_rep e1 b]
        exact SqL.of (w.sub _ _ a)
    · cases eg
  · cases eg
theorem m_starts : MtR X "str.startswith" (rM1 X.K dStarts) := fun pins s σ H x xs v us Q I rx rs ⟨y, hy, o, st, d, e, r, w, r1, r2, eg, k⟩ => by
  subst hy
  unfold dStarts at eg
  split at eg
  · cases eg
    cases r1; cases r2
    exact mt_startswith pins s σ H _ _ v us Q I rx rs ⟨_, _, rfl, rfl, k.same w (.bl _)⟩
  · cases eg
theorem on_join : OnStr dJoin := fun d e r h => by
  unfold dJoin at h
  split at h
  · exact ⟨_, rfl⟩
  · cases h
theorem on_starts : OnStr dStarts := fun d e r h => by
  unfold dStarts at h
  split at h
  · exact ⟨_, rfl⟩
  · cases h
/-- a method of a list, of one argument -/
def eBinL (g : D → D → Option D) (a b : SE) : SE := fun C r st => (a C r st).bind fun d st => match d with
  | .lst xs => (b C r st).bind fun e st => lift (g (.lst xs) e) st
  | _ => .bad
theorem m_index : MtR X "list.index" (rM1 X.K dIndex) := fun pins s σ H x xs v us Q I rx rs ⟨y, hy, o, st, d, e, r, w, r1, r2, eg, k⟩ => by
  subst hy
  unfold dIndex at eg
  split at eg
  · split at eg
    · rename_i c
      obtain ⟨j, e1, e2⟩ := Option.map_eq_some_iff.mp eg
      subst e2
      cases r1 with
      | lst a b =>
        obtain ⟨z, a1, a2, a3⟩ := atF_at e1
        obtain ⟨vz, b1, b2⟩ := b.get a1
        have fl : ∀ {m : Nat} {z' : D}, _[m]? = some z' → flatD z' = true := fun {m z'} h => List.all_eq_true.mp c.2 z' (List.mem_of_getElem? h)
        refine mt_index pins s σ H _ _ v us Q I rx rs ⟨_, _, _, j, vz, rfl, rfl, SqL.of (w.sub _ _ a), r2.flat c.1, b.flats c.2, b1, ?_, fun m z' hm hz => ?_, k.same w (.int _)⟩
        · rw [b2.eqF r2 (fl a1) c.1]; exact a2
        · obtain ⟨dz, c1, c2⟩ := b.getV hz
          rw [c2.eqF r2 (fl c1) c.1]; exact a3 m dz hm c1
    · cases eg
  · cases eg
theorem h_l1 {id : String} {name : Str} {g : D → D → Option D} (slot : PySem.Slot "list" name id) (ty : typeOf (.builtin id) = pure (.type "method_descriptor")) (rule : MtR X id (rM1 X.K g)) (ho : HE X C o so) (he : HE X C e se)
    (hs : starEach [e] X.env = [(false, eval e X.env)]) (hbase : attributeBase o name X.env (eval o X.env) = eval o X.env) (hline : (apos.endLine == pos.line) = true) : HE X C (.Call (.Attribute o name apos) [e] [] pos) (eBinL g so se) :=
  pe_by (pe_bm PySem.F.plainAttrs_list slot ty rule ho (pa_cons he pa_nil (by rw [hs]; rfl)) hbase (by rw [hs]; rfl) hline (by rw [hs]; rfl) rfl) fun s H Q ⟨o, r, st, w, l, h⟩ => by
    unfold eBinL at h
    refine ⟨o, r, st, w, l, OutR.b h fun d st1 e1 h x o1 H1 w1 x1 r1 => ?_⟩
    cases d with
    | lst xs =>
      cases r1 with
      | lst a b =>
        refine ⟨.inl ⟨rfl, _, SqL.of (w1.sub _ _ a)⟩, o1, r, st1, w1, l.ext x1, (OutD.later h w1 x1).b fun e st2 e2 h y o2 H2 w2 x2 r2 => ?_⟩
        obtain ⟨z, e3, h⟩ := h.lift
        exact ⟨_, rfl, o2, st2, _, _, z, w2, .lst (x2.sub.f _ _ a) (b.mono x2.sub), r2, e3, fun v o3 H3 w3 x3 q => h v o3 H3 w3 (x2.trans w2 x3) q⟩
    | _ => exact h.elim
end
end DS
/-! ## for i, x in enumerate(t), t a tuple -/
namespace PySem
theorem meets_enumerate_newT {v : Value} {o : Obj} {H : Heap → Prop} (B : Begins v o H) :
    Meets (Builtin.«enumerate.__new__» ⟨[.type "enumerate", v], []⟩) (fun _ R s => H s.heap ∧
      R (.ok (.ret (.ref (s.heap.push o).objs.size))) { s with heap := (s.heap.push o).push { cls := .type "enumerate", data := .fields #[.none, .bool false, .ref s.heap.objs.size, rawInt 0, .none, .none] } }) :=
  .of_wp fun prog w A R s h => by
    obtain ⟨hp, g, d, tk, os⟩ := s; obtain ⟨h1, h⟩ := h
    have hsub := sub_enumerate
    have q1 : ∀ {A' : Around} {E : Value → Shared → Prop} {Q : Value → Shared → Prop}, Q (.ref hp.objs.size) ⟨hp.push o, g, d, tk, os⟩ → wpAny (model prog w) A' (pyIter v) Q E ⟨hp, g, d, tk, os⟩ :=
      fun q => B.iter prog w _ _ ⟨hp, g, d, tk, os⟩ _ h1 q
    wp_walk using q1
    refine wpAny_stack_any fun st => wpAny_pure ?_
    split
    · rename_i c _ _ _ _ _
      cases (c == Value.type "enumerate")
      · wp_walk using q1
        exact ⟨_, rfl, h⟩
      · wp_walk using q1
        exact ⟨_, rfl, h⟩
    · wp_walk using q1
      exact ⟨_, rfl, h⟩
section
variable {prog : Program} {w : World} {A : Around} {E : Value → Shared → Prop} {s : Shared}
theorem call_enumerate_B {v : Value} {o : Obj} {H : Heap → Prop} {Q : Value → Shared → Prop} (B : Begins v o H) (h1 : H s.heap)
    (h : ∀ h', IsEnum h' (s.heap.objs.size + 1) s.heap.objs.size 0 .none → h'.get? s.heap.objs.size = some o → h'.objs.size = s.heap.objs.size + 2 →
      (∀ b o, s.heap.get? b = some o → h'.get? b = some o) → Q (.ref (s.heap.objs.size + 1)) { s with heap := h' }) :
    wpAny (model prog w) A (call (.type "enumerate") [v]) Q E s := by
  refine callType_new F.called_enumerate (by decide) (F.typeCall_enumerate_1 _) (F.newCall_enumerate_1 _) (fun obj => F.args_object_init_2 obj _) F.entry_enumerate_new
    (meets_enumerate_newT B) ⟨h1, ?_⟩
  have sz0 : (s.heap.push o).objs.size = s.heap.objs.size + 1 := Heap.size_push ..
  show _ ∧ _
  rw [sz0]
  have en : IsEnum ((s.heap.push o).push { cls := .type "enumerate", data := .fields #[.none, .bool false, .ref s.heap.objs.size, rawInt 0, .none, .none] }) (s.heap.objs.size + 1) s.heap.objs.size 0 .none := by
    have := Heap.get?_push_size (s.heap.push o) (o := { cls := .type "enumerate", data := .fields #[.none, .bool false, .ref s.heap.objs.size, rawInt 0, .none, .none] }) rfl
    rw [sz0] at this; exact this
  refine ⟨⟨_, en, rfl⟩, h _ en (Heap.get?_push_of_some _ (Heap.get?_push_size _ B.free)) (by rw [Heap.size_push, sz0]) fun b o x => Heap.get?_push_of_some _ (Heap.get?_push_of_some _ x)⟩
theorem enum_endT {e it l : Addr} {i : Nat} {items : Array Value} {ol : Value} {Q : Option Value → Shared → Prop} (hh : A.handled = none)
    (en : IsEnum s.heap e it i ol) (ti : s.heap.IsTupleIter it l i) (hl : s.heap.IsTuple l items) (hx : items[i]? = none)
    (hQ : ∀ h', Heap.ExtBut it s.heap h' → Q none { s with heap := h' }) : wpAny (model prog w) A (pyNext (.ref e)) Q E s := by
  have tT : s.TypeIs (.ref e) "enumerate" := ⟨_, en, rfl⟩
  unfold pyNext
  refine wpAny_bind (wpAny_attempt (wpAny_callSpecial?_slot (name := Str.ofString "__next__") tT F.slot_enumerate_next
    (wpAny_call_entry F.slot_enumerate_next tT F.entry_enumerate_next ?_ (F.args_enumerate_next_1 _))))
  show wpAny _ _ (field (.ref e) 2 >>= _) _ _ _
  refine wpAny_bind (wpAny_field en rfl (x := .ref it) rfl ?_)
  refine wpAny_bind (wpAny_nextOf_tuple_end hh ti hl hx fun h' x en' hx' => ?_)
  obtain ⟨o, oo, hc⟩ := hx'
  refine wpAny_bind (wpAny_isInstance (T := "StopIteration") (b := true) ⟨o, oo, hc⟩ isSubtype_stop ?_)
  exact wpAny_pure (hQ _ en')
end
end PySem
namespace DS
open PySem L2 PyProof.Rows
/-- the tuple at a, each item in a fresh0 pair -/
def ItT (K : PySem.W.Frag) (a : Addr) : It :=
  ⟨fun i H => ∃ (xs : List V) (x : V), SqT K H a xs ∧ xs[i]? = some x, fun i H v H' => ∃ T x, v = .ref T ∧ H T = none ∧ H' = upd H T (.tup [.int (i : Nat), x]) ∧ ∀ xs, SqT K H a xs → xs[i]? = some x, fun i H => ∃ xs : List V, SqT K H a xs ∧ xs.length ≤ i⟩
theorem turn_enumT {P : Program} {w : World} {K : PySem.W.Frag} {elts : List Expr} {kk : Nat} {tpos : Pos} (a e it : Addr) :
    Turn P w K (.Tuple elts kk tpos) (ItT K a) [e, it] e (fun i h => (∃ ol, IsEnum h e it ((i : Nat) : Int) ol) ∧ h.IsTupleIter it a i ∧ e ≠ it) where
  mem := by simp
  obj := fun i h st b hb => by
    obtain ⟨⟨ol, en⟩, ⟨o, oo, hc, hd⟩, _⟩ := st
    have e' : b = e ∨ b = it := by simpa using hb
    rcases e' with z | z
    · rw [z]; exact ⟨_, en, fun v q => nomatch q⟩
    · rw [z]; exact ⟨o, oo, fun v q => by rw [hd] at q; cases q⟩
  keep := fun i h h' st k => let ⟨⟨ol, en⟩, hi, ne0⟩ := st; ⟨⟨ol, k e (by simp) _ en⟩, hi.at fun o q => k it (by simp) o q, ne0⟩
  item := by
    intro X hP hw hK hc i pins s σ H E I fp0 st gg
    subst hP hw hK
    obtain ⟨⟨ol, en⟩, ti, ne0⟩ := st
    obtain ⟨xs, x, sq, hx⟩ := gg
    obtain ⟨its, vv, p, sz0⟩ := I.tuple sq
    obtain ⟨u, gu, ruv⟩ := vv.get hx
    have el : e < s.heap.objs.size := Heap.lt_size en
    have il : it < s.heap.objs.size := by obtain ⟨_, q, _⟩ := ti; exact Heap.lt_size q
    have p' : s.heap.IsTuple a its.toArray := p
    have a_it : a ≠ it := fun z => by
      obtain ⟨o1, q1, c1, _⟩ := ti
      obtain ⟨o2, q2, c2, _⟩ := p'
      rw [z, q1] at q2
      cases q2
      rw [c1] at c2
      exact absurd c2 (by decide)
    have a_e : e ≠ a := fun z => by
      obtain ⟨o2, q2, c2, _⟩ := p'
      have en' : s.heap.get? e = some _ := en
      rw [z, q2] at en'
      cases en'
      exact absurd (show Value.type "enumerate" = Value.type "tuple" from c2) (by decide)
    have hi : i < its.toArray.size := by
      have := vv.length
      have h2 := (List.getElem?_eq_some_iff.mp hx).1
      simp; omega
    refine wpAny_pyNext_enum_itemD (Draws.tuple (A := X.A.in1) (I.ok.hd hc) it a a_it its.toArray) en ⟨ti, p'⟩ hi ne0 (by simp [ne0, a_e]) fun y h' tk hP oo sst tT szz kp => ?_
    have hy : y = u := by
      have h3 : its.toArray[i]? = some y := hP
      rw [show its.toArray[i]? = some u by simpa using gu] at h3
      exact (Option.some.inj h3).symm
    subst hy
    obtain ⟨ti', _⟩ := sst
    refine ⟨_, rfl, wpAny_letOwnedTupleGo_enum (s := { s with heap := h', toks := tk + 1 }) oo fun h'' en' sm => ?_⟩
    have tT2 : h''.get? s.heap.objs.size = some { cls := .type "tuple", data := .seq #[.int i tk, y] } := (sm.2 _ (Nat.ne_of_gt el)).trans tT
    have fresh0 : ObjOk X.prog X.w (upd H s.heap.objs.size (.tup [.int (i : Nat), x])) h'' s.heap.objs.size (.tup [.int (i : Nat), x]) :=
      ⟨by show 2 ≤ sizeLine; decide, [.int i tk, y], .cons ⟨_, rfl⟩ (.cons ruv .nil), ⟨_, tT2, rfl, _, rfl⟩⟩
    have J1 : Inv X pins σ (upd H s.heap.objs.size (.tup [.int (i : Nat), x])) { s with heap := h'', toks := tk + 1 } :=
      I.turnedNew (ch := [e, it]) (fun b ob hb q => (sm.2 b (fun z => hb (by simp [z]))).trans (kp b ob (fun z => hb (by simp [z])) (fun z => hb (by simp [z])) q)) fp0 (Nat.le_refl _) fresh0
    refine ⟨.ref s.heap.objs.size, _, J1, rfl, ⟨_, x, rfl, I.hok.fresh (Nat.le_refl _), rfl, fun ys hy => by rw [I.tuple_inj hy sq]; exact hx⟩, ⟨⟨y, ?_⟩, ti'.at fun o q => (sm.2 it (Ne.symm ne0)).trans q, ne0⟩, fun b hb => ?_⟩
    · have e1 : ((i + 1 : Nat) : Int) = (i : Int) + 1 := by omega
      rw [e1]; exact en'
    · have hb' : b < s.heap.objs.size := by
        have e' : b = e ∨ b = it := by simpa using hb
        rcases e' with z | z
        · rw [z]; exact el
        · rw [z]; exact il
      rw [upd_ne (Nat.ne_of_lt hb')]
      exact (fp0 b hb).1
  done := by
    intro X hP hw hK hc i pins s σ H E I fp0 st gg
    subst hP hw hK
    obtain ⟨⟨ol, en⟩, ti, ne0⟩ := st
    obtain ⟨xs, sq, hx⟩ := gg
    obtain ⟨its, vv, p, sz0⟩ := I.tuple sq
    obtain ⟨f0, f1, f2, f3, f4, f5⟩ := fp0 it (by simp)
    have hl := vv.length
    have p' : s.heap.IsTuple a its.toArray := p
    refine enum_endT (I.ok.hd hc) en ti p' (by simp; omega) fun h' eb => ⟨rfl, I.turned (t' := s.toks) (fun b o hb q => eb b o hb q) f0 f1 f3 f4 f5⟩
  self := fun A i s Q E st h => let ⟨⟨_, en⟩, _⟩ := st; wpAny_pyIter_enum en h
def iEnumT (K : PySem.W.Frag) (ta : TA) : TI := fun σ H R => ta σ H fun vs H1 => ∃ a xs, vs = [.ref a] ∧ SqT K H1 a xs ∧ R (ItT K a) H1
theorem pi_enumT {X : Cx} {e : Expr} {ta : TA} {p pos tpos : Pos} {elts : List Expr} {kk : Nat} (gg : Gl X "enumerate") (hm : X.mg "enumerate" = none) (ha : PA X [e] ta) (hs : starEach [e] X.env = [(false, eval e X.env)]) :
    PI X (.Tuple elts kk tpos) (.Call (.Name "enumerate" p) [e] [] pos) (iEnumT X.K ta) := by
  refine ⟨fun pins s σ H R I h => ?_⟩
  refine Call_ (ld_blt I gg hm boot_enumerate (PyProof.Rows.callWith_type1 (thn (ha.run pos pins s σ H _ I h) fun us s1 ⟨vs, H1, J1, r1, q1⟩ => ?_) hs rfl))
  obtain ⟨a, xs, ex, sq, q⟩ := q1
  subst ex
  cases r1 with
  | cons r rr =>
    cases rr
    cases r
    obtain ⟨its, vv, p', sz0⟩ := J1.tuple sq
    refine call_enumerate_B (begins_tuple a its.toArray) (show s1.heap.IsTuple a its.toArray from p') fun h' en ti szz kp => wpAny_pyIter_enum en ?_
    have J2 : Inv X pins σ H1 { s1 with heap := h' } := J1.kept (t' := s1.toks) kp
    refine ⟨s1.heap.objs.size + 1, [s1.heap.objs.size + 1, s1.heap.objs.size], _, _, H1, rfl, J2, turn_enumT a (s1.heap.objs.size + 1) s1.heap.objs.size, ⟨⟨.none, en⟩, ⟨_, ti, rfl, rfl⟩, Nat.succ_ne_self _⟩, fun b hb => ?_, q⟩
    have e' : b = s1.heap.objs.size + 1 ∨ b = s1.heap.objs.size := by simpa using hb
    have le0 : s1.heap.objs.size ≤ b := by
      rcases e' with z | z
      · rw [z]; exact Nat.le_add_right _ _
      · rw [z]; exact Nat.le_refl _
    exact J1.fpOk le0 (J1.hok.fresh le0)
def enumD (ds : List D) : List D := ds.mapIdx fun i d => .tup [.int (i : Nat), d]
def dEnum : List D → Option (List D)
  | [.tup ds] => some (enumD ds)
  | _ => none
def eEnum (a : SA) : SA := fun C r st => (a C r st).bind fun ds st => lift (dEnum ds) st
section
variable {X : Cx} {C : FEnv} {K : PySem.W.Frag}
theorem walks_enumT {a : Addr} {vs : List V} {ds : List D} {o : Wo} (h : SqT K o.F a vs) (r : Reps K o vs ds) : Walks K (ItT K a) o (enumD ds) := fun o1 H st i s w => by
  have q : SqT K H a vs := sqT_up w (sqT_sub s h)
  refine ⟨fun d e => ?_, fun e => ⟨vs, q, by rw [r.len, e]; simp [enumD]⟩⟩
  unfold enumD at e
  rw [List.getElem?_mapIdx] at e
  obtain ⟨x, e0, rfl⟩ := Option.map_eq_some_iff.mp e
  obtain ⟨v, e1, e2⟩ := r.get e0
  refine ⟨⟨vs, v, q, e1⟩, fun v' H' y => ?_⟩
  obtain ⟨T, x', rfl, tT, rfl, y⟩ := y
  have := y vs q
  rw [e1] at this
  cases this
  have rr : Reps K o1 [.int (i : Nat), v] [.int (i : Nat), x] := .cons (.int _) (.cons (e2.mono s) .nil)
  exact ⟨_, put_wd w tT, put_ext w tT, (.tup (SqT.of upd_same) (rr.mono (put_sub w tT)))⟩
theorem h_enum {e : Expr} {ss : SA} {p pos tpos : Pos} {elts : List Expr} {kk : Nat} (gg : Gl X "enumerate") (hm : X.mg "enumerate" = none) (ha : HA X C [e] ss) (hl : Long 1 ss) (hs : starEach [e] X.env = [(false, eval e X.env)]) :
    HI X C (.Tuple elts kk tpos) (.Call (.Name "enumerate" p) [e] [] pos) (eEnum ss) :=
  pi_by (pi_enumT gg hm ha hs) fun s H R ⟨o, r, st, w, l, h⟩ => by
    unfold eEnum at h
    cases e1 : ss C r st with
    | exc _ _ =>
      rw [e1] at h
      refine ⟨o, r, st, w, l, ?_⟩
      rw [e1]
      exact h
    | bad => rw [e1] at h; exact h.elim
    | ok ds st1 =>
      rw [e1] at h
      refine ⟨o, r, st, w, l, ?_⟩
      rw [e1]
      intro vs o1 H1 w1 x1 r1
      have ll := hl _ _ _ _ _ e1
      match ds, ll with
      | [d], _ =>
        obtain ⟨v, rfl, vv⟩ := reps1 r1
        cases d with
        | tup ds =>
          cases vv with
          | tup a b => exact ⟨_, _, rfl, sqT_up w1 a, h _ o1 H1 w1 x1 (walks_enumT a b)⟩
        | _ => exact h.elim
end
end DS
namespace DS
open PySem L2 PyProof.Rows
/-! ## C(*a, *b); own x[i] -/
def dSeq : D → Option (List D)
  | .tup xs => some xs
  | .lst xs => some xs
  | _ => none
def aStar (a : SE) (b : SA) : SA := fun C r st => (a C r st).bind fun d st => (lift (dSeq d) st).bind fun xs st => (b C r st).bind fun ys st => .ok (xs ++ ys) st
def eMakeS (c f : Str) (a : SA) : SE := fun C r st => (a C r st).bind fun ds st => if ds.length ≤ 60 then (C f [.cell st.length, .tup ds] (st ++ [.obj c [] []])).bind fun v st' => frzD st.length v st' else .bad
section
variable {M : Model} {A : Around} {E : Value → Shared → Prop} {s : Shared} {K : PySem.W.Frag} {env : Env} {pos p : Pos} {f : Value} {first : List Value} {Q : Value → Shared → Prop} {h₀ : Heap} {e e2 : Expr} {rest : List Expr}
theorem evalArgs_two {f : Value} {x : Sem Value} {b : Bool} {y : Sem Value} {rest : List (Bool × Sem Value)} {Q : Args → Shared → Prop}
    (h : wpAny M A (spliced ((true, x) :: (b, y) :: rest)) (fun vs s' => Q ⟨vs, []⟩ s') E s) : wpAny M A (evalArgs f true ((true, x) :: (b, y) :: rest) []) Q E s := by
  unfold evalArgs
  show wpAny M A (spliced ((true, x) :: (b, y) :: rest) >>= _) Q E s
  refine wpAny_bind (wpAny_mono h (fun vs s' h' => ?_) fun _ _ x => x)
  refine wpAny_holding ?_
  exact wpAny_bind (wpAny_pure (wpAny_bind (wpAny_pure (wpAny_pure h'))))
theorem starEach_cons (e : Expr) (rest : List Expr) (env : Env) : ∃ b y, starEach (e :: rest) env = (b, y) :: starEach rest env := by
  cases e <;> exact ⟨_, _, rfl⟩
theorem callWith_S3 (_X : K.In h₀) (hk : PySem.W.keepIn K f = true) (h : wpAny M A (spliced (backTo pos (starEach (.Starred e p :: e2 :: rest) env))) (fun vs s₁ => K.In s₁.heap ∧ wpAny M A (call f (first ++ vs)) Q E s₁) E s) :
    wpAny M A (callWith pos f first (backTo pos (starEach (.Starred e p :: e2 :: rest) env)) []) Q E s := by
  have he : starEach (.Starred e p :: e2 :: rest) env = (true, eval e env) :: starEach (e2 :: rest) env := rfl
  obtain ⟨b, y, he2⟩ := starEach_cons e2 rest env
  rw [he, he2] at h ⊢
  exact PySem.W.ks_call rfl (PySem.W.keeps_K hk) (evalArgs_two h)
end
section
variable {X : Cx} {C : FEnv} {e e2 : Expr} {sa : SE} {ss : SA} {f c : Str} {pos p q : Pos} {es : List Expr} {lv : Nat}
theorem dSeq_rep {K : PySem.W.Frag} {o : Wo} {H : Hp} {st : Store} {v : V} {d : D} {xs : List D} (w : Wd K o H st) (r : Rep K o v d) (h : dSeq d = some xs) : ∃ a vs, v = .ref a ∧ (SqT K H a vs ∨ SqL K H a vs) ∧ Reps K o vs xs := by
  cases r with
  | tup a b => cases h; exact ⟨_, _, rfl, .inl (sqT_up w a), b⟩
  | lst a b => cases h; exact ⟨_, _, rfl, .inr (SqL.of (w.sub _ _ a)), b⟩
  | _ => cases h
theorem reps_append {K : PySem.W.Frag} {o : Wo} : ∀ {vs ws : List V} {ds es : List D}, Reps K o vs ds → Reps K o ws es → Reps K o (vs ++ ws) (ds ++ es)
  | _, _, _, _, .nil, h => h
  | _, _, _, _, .cons a b, h => .cons a (reps_append b h)
theorem h_astar (ha : HE X C e sa) (hb : HA X C es ss) : HA X C (.Starred e p :: es) (aStar sa ss) := by
  have z := StX.pa_star (p := p) ha hb rfl
  refine ⟨fun pos pins s σ H Q I ⟨o, r, st, w, l, h⟩ => z.run pos pins s σ H Q I ⟨o, r, st, w, l, h.b fun d st1 e1 h x o1 H1 w1 x1 r1 => ?_⟩⟩
  obtain ⟨xs, e3, h⟩ := OutR.liftB h
  obtain ⟨a, vs, rfl, sq, rp⟩ := dSeq_rep w1 r1 e3
  refine ⟨a, vs, rfl, sq, o1, r, st1, w1, l.ext x1, OutR.bx h (fun _ _ z => OutX.later z w1 x1) fun ys st2 e2 h zs o2 H2 w2 x2 r2 => ?_⟩
  exact h _ o2 H2 w2 (x1.trans w1 x2) (reps_append (rp.mono x2.sub) r2)
/-- C(*a, ..) -/
theorem h_makeS (hx : ∀ n, n ≤ 60 → MkOk X C lv c n [] f [.pos 0, .star 1]) (hr : Room (lv + 1) X.A) (hgd : X.A.guards = some []) (hg : Gl X c) (ha : HA X C (.Starred e p :: e2 :: es) ss) (hdb : (c == ("__debug__" : Str)) = false) :
    HE X C (.Call (.Name c q) (.Starred e p :: e2 :: es) [] pos) (eMakeS c f ss) := by
  refine ⟨fun pins s σ H Q I ⟨o, r, st, w, l, h⟩ => ?_⟩
  obtain ⟨hm, ad, M, _⟩ := hx 0 (Nat.zero_le _)
  refine wpAny_Call_Name_kw (ld_glob I hg hm ?_ hdb)
  refine callWith_S3 (h₀ := X.base) I.ok.mod.kin M.kp (thn (ha.run pos pins s σ H (fun vs H1 => ∀ (us : List Value) (s1 : Shared), Inv X pins σ H1 s1 → Vals vs us → wpAny (model X.prog X.w) X.A (call (.ref (He.ga X.K c)) ([] ++ us)) (EP X pins σ Q) X.xe s1) I ⟨o, r, st, w, l, h.b fun ds st1 e1 h vs o1 H1 w1 x1 r1 => ?_⟩) fun us s1 ⟨vs, H1, I1, rv, q1⟩ => ⟨I1.kIn, q1 us s1 I1 rv⟩)
  intro us s1 I1 rv
  split at h
  · rename_i le
    obtain ⟨_, ad', M', F⟩ := hx _ le
    exact run_mk M' F hr hgd (ws := []) (zs := []) (es := []) I1 rv .nil w1 r1 .nil rfl rfl (OutD.later h w1 x1)
  · exact h.elim
/-- C(*a) -/
theorem h_makeS1 (hx : ∀ n, n ≤ 60 → MkOk X C lv c n [] f [.pos 0, .star 1]) (hr : Room (lv + 1) X.A) (hgd : X.A.guards = some []) (hg : Gl X c) (ha : HE X C e sa) (hdb : (c == ("__debug__" : Str)) = false) :
    HE X C (.Call (.Name c q) [.Starred e p] [] pos) (eMakeS c f (aStar sa aNil)) := by
  refine ⟨fun pins s σ H Q I ⟨o, r, st, w, l, h⟩ => ?_⟩
  obtain ⟨hm, ad, M, _⟩ := hx 0 (Nat.zero_le _)
  refine wpAny_Call_Name_kw (ld_glob I hg hm ?_ hdb)
  have h : OutD X.K (wx X) o H ((sa C r st).bind fun d st => (lift (dSeq d) st).bind fun xs st => if (xs ++ []).length ≤ 60 then (C f [.cell st.length, .tup (xs ++ [])] (st ++ [.obj c [] []])).bind fun v st' => frzD st.length v st' else .bad) Q := by
    unfold eMakeS aStar at h
    rw [bind_bind'] at h
    refine (congrArg (fun z => OutD X.K (wx X) o H ((sa C r st).bind z) Q) ?_).mp h
    funext d st1
    rw [bind_bind']
    rfl
  refine PySem.W.callWith_S (h₀ := X.base) I.ok.mod.kin M.kp (thn (ha.run pins s σ H (fun x H1 => ∀ (v : Value) (s1 : Shared), Inv X pins σ H1 s1 → RelV x v → PySem.W.StarOf (model X.prog X.w) X.A X.xe v (fun vs s2 => X.K.In s2.heap ∧ wpAny (model X.prog X.w) X.A (call (.ref (He.ga X.K c)) ([] ++ vs)) (EP X pins σ Q) X.xe s2) s1) I ⟨o, r, st, w, l, h.b fun d st1 e1 h x o1 H1 w1 x1 r1 => ?_⟩) fun v s1 ⟨x, H1, I1, rv, q1⟩ => q1 v s1 I1 rv) rfl
  intro v s1 I1 rv
  obtain ⟨xs, e3, h⟩ := OutR.liftB h
  obtain ⟨a, vs, rfl, sq, rp⟩ := dSeq_rep w1 r1 e3
  obtain rfl : v = Value.ref a := rv
  refine StX.star_any I1 sq fun us s2 I2 rv => ⟨I2.kIn, ?_⟩
  rw [List.append_nil] at h
  split at h
  · rename_i le
    obtain ⟨_, ad', M', F⟩ := hx _ le
    exact run_mk M' F hr hgd (ws := []) (zs := []) (es := []) I2 rv .nil w1 rp .nil rfl rfl (OutD.later h w1 x1)
  · exact h.elim
end
/-! ### own x[i] -/
section
variable {prog : Program} {w : World} {A : Around} {E : Value → Shared → Prop} {s : Shared} {K : PySem.W.Frag} {x C f : Addr} {ox : Obj} {od : Option Obj}
open PySem.W in
theorem sub_own {value slice : Expr} {i : Value} {Q : Value → Shared → Prop} (X : K.In s.heap) (J : InstAt s.heap x ox C od) (gf : findIn K (.ref C) "__getitem__" = some (some (.ref f))) (ff : fnIn K f = true) (fn0 : isFn K (.ref f) = true)
    (h : wpAny (model prog w) A.in1 (call (.ref f) [.ref x, i]) Q E s)
    (sl0 : subscripted slice true (.ref x) i = runValue (.builtin "lifetime.subscript" ⟨[.ref x, i], []⟩)) :
    wpAny (model prog w) A (subscriptTail value slice (.ref x) i) Q E s := by
  unfold fnIn at ff
  split at ff
  · rename_i e
    unfold subscriptTail getitemInPython
    refine wpAny_bind (wpAny_bind (wpAny_bind (J.type.here ((looks_findIn X gf).here ?_))))
    dsimp only
    refine wpAny_bind (wpAny_load (X _ _ e) (wpAny_pure ?_))
    dsimp only
    rw [sl0]
    refine wpAny_bind (wpAny_runValue (codeAny_builtin entry_sub ?_))
    unfold Builtin.«lifetime.subscript»
    refine wpAny_bind (special_fn X J gf (beq_iff_eq.mp fn0) (wpAny_mono h (fun v s' z => ?_) fun _ _ z => z))
    refine wpAny_pure ?_
    show wpAny (model prog w) A (letTemporaryGo value (.ref x) v >>= fun _ => pure v) Q E s'
    exact wpAny_bind (wpAny_letTemporaryGo (wpAny_pure z))
  · cases ff
end
def oIx (tab : List (Str × Str)) (g : D → D → Store → Option D) : G2 := fun C d e st => match g d e st with
  | some v => .ok v st
  | none => match (ownNm d).bind fun c => tab.lookup c with
    | none => .bad
    | some f => C f [d, e] st
section
variable {X : Cx} {C : FEnv} {a b : Expr} {sa sb : SE} {pos p : Pos} {lv : Nat} {anc : List (Str × List Str)} {tab : List (Str × Str)}
theorem h_ixO (hr : Room (lv + 1) X.A) (hgd : X.A.guards = some []) (ht : OwnOk X C lv anc "__getitem__" tab) (ha : HE X C a sa) (hb : HE X C b sb) (hs : PlainIx b)
    (hs2 : ∀ v u, subscripted b true v u = runValue (.builtin "lifetime.subscript" ⟨[v, u], []⟩)) : HE X C (.Subscript a b pos) (eBinC (oIx tab dIx) sa sb) := by
  have main : PE X (.Subscript a b pos) (tOp (rDC X.K (wx X) C (oIx tab dIx)) (tD X.K (wx X) (sa C)) (tD X.K (wx X) (sb C))) := by
    refine ⟨fun pins s σ H Q I h => Subscript_ (binT ha hb I h fun v u s2 x y H2 I2 rx ry q => ?_)⟩
    obtain ⟨o, st, d, e, w, r1, r2, h⟩ := q
    unfold oIx at h
    split at h
    · rename_i z e1
      exact ix_d a b pins s2 σ H2 x y v u Q I2 rx ry ⟨o, st, d, e, z, w, r1, r2, e1, h⟩ (hs _ _)
    · split at h
      · exact h.elim
      · rename_i f e1
        obtain ⟨c, e0, e1⟩ := Option.bind_eq_some_iff.mp e1
        obtain ⟨⟨cl, ad, mt, F⟩, ob⟩ := ht c f e1
        obtain ⟨a', ox, od, rfl, rfl, J⟩ := inst_of I2 w rx r1 e0
        have ob : getB X.K c = true := ob
        have hf : PySem.W.fnIn X.K ad = true := by
          unfold getB at ob
          rw [mt.at_] at ob
          exact ob
        refine sub_own (f := ad) I2.kIn J mt.at_ hf mt.fn ?_ (hs2 _ _)
        exact thn (run_at1 F hr hgd I2 (us := [.ref a', u]) (vs := [.ref a', y]) (ws := []) (zs := []) (.cons rfl (.cons ry .nil)) .nil w (.cons r1 (.cons r2 .nil)) .nil rfl rfl h) fun z s' q => q
  exact pe_by main fun s H Q h => rd_binC h
end
end DS
namespace DS
open PySem L2 PyProof.Rows
/-! ## tuple * int -/
section
theorem tup_times1 (l : Addr) (its : Array Value) (n : Nat) (dd : Option Addr) (sl : Array (Option Value)) (t : Tok) :
    Meets (Builtin.«tuple.__mul__» ⟨[.ref l, .int 1 t], []⟩) (fun _ R s => s.heap.get? l = some { cls := .type "tuple", dict := dd, data := .seq its n, slots := sl } ∧ R (.ok (.ret (.ref l))) s) :=
  .of_wp fun prog w A R s z => by
    obtain ⟨a, b, c, d, e⟩ := s
    obtain ⟨z1, z2⟩ := z
    have f1 := AutoSeq1.idx_int
    wp_walk using AutoSeq1.wpAny_loadPart' z1
    repeat (first
      | (refine wpAny_ite_false (by simp) ?_; wp_walk using AutoSeq1.wpAny_loadPart' z1)
      | (refine wpAny_ite (by simp) ?_; wp_walk using AutoSeq1.wpAny_loadPart' z1))
    exact ⟨_, rfl, z2⟩
theorem tup_times0 (l : Addr) (its : Array Value) (n : Nat) (dd : Option Addr) (sl : Array (Option Value)) (t : Tok) (hne : its.isEmpty = false) :
    Meets (Builtin.«tuple.__mul__» ⟨[.ref l, .int 0 t], []⟩) (fun _ R s => s.heap.get? l = some { cls := .type "tuple", dict := dd, data := .seq its n, slots := sl } ∧
      R (.ok (.ret (.ref s.heap.objs.size))) { s with heap := s.heap.push { cls := .type "tuple", data := .seq #[] } }) :=
  .of_wp fun prog w A R s z => by
    obtain ⟨a, b, c, d, e⟩ := s
    obtain ⟨z1, z2⟩ := z
    have f1 := AutoSeq1.idx_int
    wp_walk using AutoSeq1.wpAny_loadPart' z1
    repeat (first
      | (refine wpAny_ite_false (by simp [hne]) ?_; wp_walk using AutoSeq1.wpAny_loadPart' z1)
      | (refine wpAny_ite (by simp [hne]) ?_; wp_walk using AutoSeq1.wpAny_loadPart' z1))
    exact ⟨_, rfl, z2⟩
end
/-- t * k -/
def dMulT (d e : D) : Option D := match dMul d e with
  | some v => some v
  | none => match d, e with
    | .tup xs, .int k => if xs ≠ [] ∧ 0 ≤ k ∧ k ≤ 1000 ∧ xs.length ≤ 1000 then some (.tup (List.replicate k.toNat xs).flatten) else none
    | _, _ => none
section
variable {X : Cx}
theorem reps_rep {K : PySem.W.Frag} {o : Wo} {vs : List V} {ds : List D} (r : Reps K o vs ds) : ∀ n : Nat, Reps K o (List.replicate n vs).flatten (List.replicate n ds).flatten
  | 0 => .nil
  | n + 1 => by
    rw [List.replicate_succ, List.replicate_succ, List.flatten_cons, List.flatten_cons]
    exact reps_append r (reps_rep r n)
theorem or_mulT (hg : OpR X (binaryOp .Mult) (rD2 X.K dMul)) : OpR X (binaryOp .Mult) (rD2 X.K dMulT) := fun pins s σ H x y v u Q I rx ry ⟨o, st, d, e, r, w, r1, r2, eg, k⟩ => by
  unfold dMulT at eg
  split at eg
  · rename_i z e1
    cases eg
    exact hg pins s σ H x y v u Q I rx ry ⟨o, st, d, e, _, w, r1, r2, e1, k⟩
  · split at eg
    · rename_i ds kk hno
      split at eg
      · rename_i c
        obtain ⟨c1, c2, c3, c4⟩ := c
        cases eg
        cases r2
        cases r1 with
        | tup a b =>
          rename_i l vs zz
          have sq := sqT_up w a
          have vne : vs ≠ [] := fun z => c1 (by subst z; cases b; rfl)
          by_cases k2 : 2 ≤ kk
          · exact op_repT pins s σ H _ _ v u Q I rx ry ⟨l, kk, vs, rfl, rfl, sq, vne, k2, c3, by rw [b.len]; exact c4, fun p hp => k.tup w (reps_rep b _) hp⟩
          · cases rx
            obtain ⟨t, rfl⟩ := ry
            obtain ⟨its, vr, ⟨⟨cls, dd, data, sl⟩, ho, hc, n, hd⟩, hs⟩ := I.tuple sq
            simp only at hc hd
            subst hc hd
            have ine : its.toArray.isEmpty = false := by
              cases its with
              | nil => exact absurd (List.eq_nil_of_length_eq_zero (by rw [vr.length]; rfl)) vne
              | cons _ _ => rfl
            by_cases k1 : kk = 1
            · subst k1
              refine wpAny_binaryOp_repeat_ref (T := "tuple") (U := "int") (by decide) ⟨_, ho, rfl⟩ (fun s' => typeIs_int s' 1 t) noFill_tuple_mul F.fills_int_mul F.slot_int_rmul repeat_tuple F.slot_int_index.lookup
                (call_meets F.slot_int_rmul (typeIs_int s 1 t) F.entry_int_rmul (F.args_int_rmul_2 _ _) (int_rmul_tuple 1 t l its.toArray n dd sl) ⟨ho, rfl, ⟨_, ho, rfl⟩, ?_⟩)
              refine call_meets F.slot_tuple_mul ⟨_, ho, rfl⟩ F.entry_tuple_mul (F.args_tuple_mul_2 _ _) (tup_times1 l its.toArray n dd sl t) ⟨ho, .ref l, H, I.tok _, rfl, ?_⟩
              refine k _ o H w (.refl o H) ?_
              have e1 : (List.replicate (1 : Int).toNat ds).flatten = ds := by simp
              rw [e1]
              exact .tup a b
            · have k0 : kk = 0 := by omega
              subst k0
              refine wpAny_binaryOp_repeat_ref (T := "tuple") (U := "int") (by decide) ⟨_, ho, rfl⟩ (fun s' => typeIs_int s' 0 t) noFill_tuple_mul F.fills_int_mul F.slot_int_rmul repeat_tuple F.slot_int_index.lookup
                (call_meets F.slot_int_rmul (typeIs_int s 0 t) F.entry_int_rmul (F.args_int_rmul_2 _ _) (int_rmul_tuple 0 t l its.toArray n dd sl) ⟨ho, rfl, ⟨_, ho, rfl⟩, ?_⟩)
              refine call_meets F.slot_tuple_mul ⟨_, ho, rfl⟩ F.entry_tuple_mul (F.args_tuple_mul_2 _ _) (tup_times0 l its.toArray n dd sl t ine) ⟨ho, ?_⟩
              refine ⟨.ref s.heap.objs.size, _, I.laid (t' := s.toks) (o := .tup []) (fun b ob q => Heap.get?_push_of_some _ q) (Nat.le_refl _) ⟨Nat.zero_le _, [], .nil, IsTup.new _ _⟩, rfl, k.tup w (vs := []) .nil (I.hok.fresh (Nat.le_refl _))⟩
      · cases eg
    · cases eg
end
/-! ## own len -/
section
variable {prog : Program} {w : World} {A : Around} {E : Value → Shared → Prop} {s : Shared} {K : PySem.W.Frag} {x c fa : Addr} {ox : Obj} {od : Option Obj}
open PySem.W in
theorem len_own {Q : Value → Shared → Prop} (kx : K.In s.heap) (J : InstAt s.heap x ox c od) (fx : findIn K (.ref c) "__len__" = some (some (.ref fa))) (ff : isFn K (.ref fa) = true)
    (k : wpAny (model prog w) A.in1 (call (.ref fa) [.ref x]) (PySem.W.LenBack Q) E s) : wpAny (model prog w) A (call (.builtin "len") [.ref x]) Q E s := by
  refine Calls.call_function_entry kind_len plain_len entry_len (args_len1 _) ?_
  unfold Builtin.«len»
  refine wpAny_bind (m := oneArg "len" _) (wpAny_pure (wpAny_bind (m := callSpecial? (.ref x) (Str.ofString "__len__")) (special_fn kx J fx (beq_iff_eq.mp ff) (wpAny_mono k (fun v s' kv => ?_) fun _ _ y => y))))
  cases v with
  | int n u =>
    obtain ⟨⟨n0, n1⟩, kq⟩ := kv
    refine wpAny_bind (wpAny_holding (wpAny_pure (wpAny_bind (wpAny_letGo ?_))))
    show wpAny _ _ (if n < 0 then _ else _) _ _ _
    rw [if_neg (Int.not_lt.mpr n0)]
    show wpAny _ _ (if n ≥ 2 ^ 63 then _ else _) _ _ _
    rw [if_neg (Int.not_le.mpr n1)]
    exact wpAny_bind (wpAny_mkInt (wpAny_pure ⟨_, rfl, kq⟩))
  | _ => exact kv.elim
end
def tellN (v : D) (st : Store) : Res D := match v with
  | .int n => if 0 ≤ n ∧ n < 2 ^ 62 then .ok (.int n) st else .bad
  | _ => .bad
def oLen (tab : List (Str × Str)) (g : List D → Option D) : FEnv → List D → Store → Res D := fun C ds st => match g ds with
  | some v => .ok v st
  | none => match ds with
    | [d] => (match (ownNm d).bind fun c => tab.lookup c with
      | none => .bad
      | some f => (C f [d] st).bind fun v st => tellN v st)
    | _ => .bad
theorem tellN_out {K : PySem.W.Frag} {E : XK} {o : Wo} {H : Hp} {r : Res D} {Q : VK} (h : OutD K E o H (r.bind fun v st => tellN v st) Q) : OutD K E o H r (fun v H' => ∃ n : Int, v = .int n ∧ 0 ≤ n ∧ n < 2 ^ 62 ∧ Q (.int n) H') := by
  cases r with
  | ok d st =>
    have h : OutD K E o H (tellN d st) Q := h
    unfold tellN at h
    split at h
    · split at h
      · rename_i c
        intro v o' H' w e q
        cases q
        exact ⟨_, rfl, c.1, c.2, h _ o' H' w e (.int _)⟩
      · exact h.elim
    · exact h.elim
  | exc _ _ => exact h
  | bad => exact h
section
variable {X : Cx} {C : FEnv} {lv : Nat} {tab : List (Str × Str)} {g : List D → Option D}
theorem or_len (hr : Room (lv + 1) X.A) (hgd : X.A.guards = some []) (ht : OwnOk1 X C lv "__len__" tab) (hg : CallR X (.builtin "len") (rDs X.K g)) : CallR X (.builtin "len") (rDsC X.K (wx X) C (oLen tab g)) := fun pins s σ H xs us Q I rv ⟨o, st, ds, w, rs, h⟩ => by
  unfold oLen at h
  split at h
  · rename_i z e1
    exact hg pins s σ H xs us Q I rv ⟨o, st, ds, z, w, rs, e1, h⟩
  · split at h
    · rename_i d hn0
      split at h
      · exact h.elim
      · rename_i f e1
        obtain ⟨c, e0, e1⟩ := Option.bind_eq_some_iff.mp e1
        obtain ⟨v, rfl, r1⟩ := reps1 rs
        cases rv with
        | cons rx rn =>
          cases rn
          obtain ⟨cl, ad, mt, F⟩ := ht c f e1
          obtain ⟨a, ox, od, rfl, rfl, J⟩ := inst_of I w rx r1 e0
          refine len_own (fa := ad) I.kIn J mt.at_ mt.fn ?_
          refine thn (run_at1 F hr hgd I (us := [.ref a]) (vs := [.ref a]) (ws := []) (zs := []) (.cons rfl .nil) .nil w (.cons r1 .nil) .nil rfl rfl (tellN_out h)) fun z s' ⟨x1, H1, I1, rx1, n, en, n0, n1, q⟩ => ?_
          subst en
          obtain ⟨t, rfl⟩ := (show ∃ t, z = Value.int n t from rx1)
          exact ⟨⟨n0, by omega⟩, .int n, H1, I1.tok _, ⟨_, rfl⟩, q⟩
    · exact h.elim
end
/-! ## zip(tuple, list) -/
/-- pairs of a tuple's and a list's items -/
def ItZ (K : PySem.W.Frag) (a b : Addr) : It where
  go := fun i H => ∃ (xs ys : List V) (x y : V), SqT K H a xs ∧ SqL K H b ys ∧ xs[i]? = some x ∧ ys[i]? = some y
  yld := fun i H v H' => ∃ p x y, v = .ref p ∧ H p = none ∧ H' = upd H p (.tup [x, y]) ∧ (∀ xs, SqT K H a xs → xs[i]? = some x) ∧ ∀ ys, SqL K H b ys → ys[i]? = some y
  stop := fun i H => ∃ xs ys : List V, SqT K H a xs ∧ SqL K H b ys ∧ i = min xs.length ys.length
abbrev ZSt (z ti to j1 j2 a b : Addr) (i : Nat) (h : Heap) : Prop := IsZip h z ti to .none ∧ IsTupOf2 h ti (.ref j1) (.ref j2) ∧ (∃ u v, IsTupOf2 h to u v) ∧ h.IsTupleIter j1 a i ∧ h.IsListIter j2 b i
theorem turn_zipTL {P : Program} {w : World} {K : PySem.W.Frag} {elts : List Expr} {kk : Nat} {tpos : Pos} {a b z ti to j1 j2 : Addr} (S : ZipSep2 z ti to j1 j2 [j1, a] [j2, b]) :
    Turn P w K (.Tuple elts kk tpos) (ItZ K a b) [z, ti, to, j1, j2] z (ZSt z ti to j1 j2 a b) where
  mem := List.mem_cons_self
  obj := fun i h ⟨sz, sI, ⟨u, v, sO⟩, ⟨o1, g1, _, d1⟩, ⟨o2, g2, _, d2⟩⟩ c cm => by
    simp only [List.mem_cons, List.not_mem_nil, or_false] at cm
    rcases cm with rfl | rfl | rfl | rfl | rfl
    · exact ⟨_, sz, fun _ q => nomatch q⟩
    · exact ⟨_, sI, fun _ q => nomatch q⟩
    · exact ⟨_, sO, fun _ q => nomatch q⟩
    · exact ⟨o1, g1, fun _ q => by rw [d1] at q; cases q⟩
    · exact ⟨o2, g2, fun _ q => by rw [d2] at q; cases q⟩
  keep := fun i h h' ⟨sz, sI, ⟨u, v, sO⟩, t1, t2⟩ k => ⟨k z (by simp) _ sz, k ti (by simp) _ sI, ⟨u, v, k to (by simp) _ sO⟩, t1.at fun o q => k j1 (by simp) o q, t2.at fun o q => k j2 (by simp) o q⟩
  item := by
    intro X e1 e2 e3 calm i pins s σ H E I fp zst gg
    subst e1 e2 e3
    obtain ⟨sz, sI, ⟨u0, v0, sO⟩, t1, t2⟩ := zst
    obtain ⟨xs, ys, x, y, qx, qy, gx, gy⟩ := gg
    obtain ⟨is1, r1, p1, _⟩ := I.tuple qx
    obtain ⟨is2, r2, p2, _⟩ := I.list qy
    have p1 : s.heap.IsTuple a is1.toArray := p1
    obtain ⟨u1, m1, w1⟩ := r1.get gx
    obtain ⟨u2, m2, w2⟩ := r2.get gy
    have zl : z < s.heap.objs.size := Heap.lt_size sz
    have aj : a ≠ j1 := fun q => by
      obtain ⟨o1, g1, c1, _⟩ := t1
      obtain ⟨o2, g2, c2, _⟩ := p1
      rw [q, g1] at g2
      cases g2
      exact absurd (c1.symm.trans c2) (by decide)
    have bj : b ≠ j2 := fun q => by
      obtain ⟨o1, g1, c1, _⟩ := t2
      obtain ⟨o2, g2, c2, _⟩ := p2.isList
      rw [q, g1] at g2
      cases g2
      exact absurd (c1.symm.trans c2) (by decide)
    have l1 : i < is1.toArray.size := by
      have := (List.getElem?_eq_some_iff.mp m1).1
      rw [List.size_toArray]; exact this
    have l2 : i < is2.toArray.size := by
      have := (List.getElem?_eq_some_iff.mp m2).1
      rw [List.size_toArray]; exact this
    refine wpAny_pyNext_zipD2_item S (Draws.tuple (A := X.A.in1) (I.ok.hd calm) j1 a aj is1.toArray) (Draws.list (A := X.A.in1) (I.ok.hd calm) j2 b bj is2.toArray) sz sI sO ⟨t1, p1⟩ ⟨t2, p2.isList⟩ l1 l2 fun y1 y2 h1 tk e1 e2 z1 o1 t3 t4 n1 s1 k1 => ?_
    have y1e : y1 = u1 := by
      have e1 : is1.toArray[i]? = some y1 := e1
      rw [List.getElem?_toArray, m1] at e1
      exact (Option.some.inj e1).symm
    have y2e : y2 = u2 := by
      have e2 : is2.toArray[i]? = some y2 := e2
      rw [List.getElem?_toArray, m2] at e2
      exact (Option.some.inj e2).symm
    subst y1e y2e
    refine ⟨_, rfl, wpAny_letOwnedTupleGo_zip (s := { s with heap := h1, toks := tk }) z1 fun h2 z2 sm => ?_⟩
    have n2 : h2.get? s.heap.objs.size = some { cls := .type "tuple", data := .seq #[y1, y2] } := (sm.2 _ (Nat.ne_of_gt zl)).trans n1
    have lay : ObjOk X.prog X.w (upd H s.heap.objs.size (.tup [x, y])) h2 s.heap.objs.size (.tup [x, y]) := ⟨by show 2 ≤ sizeLine; decide, [y1, y2], .cons w1 (.cons w2 .nil), ⟨_, n2, rfl, _, rfl⟩⟩
    have J : Inv X pins σ (upd H s.heap.objs.size (.tup [x, y])) { s with heap := h2, toks := tk } :=
      I.turnedNew (t' := tk) (ch := [z, ti, to, j1, j2]) (fun c o no q => by
        simp only [List.mem_cons, List.not_mem_nil, or_false, not_or] at no
        exact (sm.2 c no.1).trans (k1 c o no.1 no.2.2.1 no.2.2.2.1 no.2.2.2.2 q)) fp (Nat.le_refl _) lay
    refine ⟨.ref s.heap.objs.size, _, J, rfl, ⟨_, x, y, rfl, I.hok.fresh (Nat.le_refl _), rfl, fun l ql => by rw [I.tuple_inj ql qx]; exact gx, fun l ql => by rw [I.list_inj ql qy]; exact gy⟩, ⟨z2, (sm.2 _ S.TIz).trans (k1 _ _ S.TIz S.TITO S.TIi1 S.TIi2 sI), ⟨y1, y2, (sm.2 _ S.TOz).trans o1⟩, t3.1.at fun o q => (sm.2 _ (Ne.symm S.zi1)).trans q, t4.1.at fun o q => (sm.2 _ (Ne.symm S.zi2)).trans q⟩, fun c cm => ?_⟩
    have lt : c < s.heap.objs.size := by
      have cm2 := cm
      simp only [List.mem_cons, List.not_mem_nil, or_false] at cm2
      rcases cm2 with rfl | rfl | rfl | rfl | rfl
      · exact zl
      · exact Heap.lt_size sI
      · exact Heap.lt_size sO
      · obtain ⟨_, g, _⟩ := t1; exact Heap.lt_size g
      · obtain ⟨_, g, _⟩ := t2; exact Heap.lt_size g
    rw [upd_ne (Nat.ne_of_lt lt)]
    exact (fp c cm).1
  done := by
    intro X e1 e2 e3 calm i pins s σ H E I fp zst gg
    subst e1 e2 e3
    obtain ⟨sz, sI, ⟨u0, v0, sO⟩, t1, t2⟩ := zst
    obtain ⟨xs, ys, qx, qy, im⟩ := gg
    obtain ⟨is1, r1, p1, _⟩ := I.tuple qx
    obtain ⟨is2, r2, p2, _⟩ := I.list qy
    have p1 : s.heap.IsTuple a is1.toArray := p1
    have n1 := r1.length
    have n2 := r2.length
    have aj : a ≠ j1 := fun q => by
      obtain ⟨o1, g1, c1, _⟩ := t1
      obtain ⟨o2, g2, c2, _⟩ := p1
      rw [q, g1] at g2
      cases g2
      exact absurd (c1.symm.trans c2) (by decide)
    have bj : b ≠ j2 := fun q => by
      obtain ⟨o1, g1, c1, _⟩ := t2
      obtain ⟨o2, g2, c2, _⟩ := p2.isList
      rw [q, g1] at g2
      cases g2
      exact absurd (c1.symm.trans c2) (by decide)
    refine wpAny_pyNext_zipD2_end S (Draws.tuple (A := X.A.in1) (I.ok.hd calm) j1 a aj is1.toArray) (Draws.list (A := X.A.in1) (I.ok.hd calm) j2 b bj is2.toArray) sz sI sO ⟨t1, p1⟩ ⟨t2, p2.isList⟩ (by rw [List.size_toArray]; omega) (by rw [List.size_toArray]; omega) (by rw [List.size_toArray, List.size_toArray]; omega) fun h1 tk k1 => ⟨rfl, I.turnedL (t' := tk) (ch := [z, ti, to, j1, j2]) (fun c o no q => by
        simp only [List.mem_cons, List.not_mem_nil, or_false, not_or] at no
        exact k1 c o no.1 no.2.2.1 no.2.2.2.1 no.2.2.2.2 q) fp⟩
  self := fun A i s Q E zst k => wpAny_pyIter_zip zst.1 k
theorem zip_sep (n a b : Nat) (la : a < n) (lb : b < n) : ZipSep2 (n + 4) (n + 2) (n + 3) n (n + 1) [n, a] [n + 1, b] where
  TIz := by show n + 2 ≠ n + 4; omega
  TOz := by show n + 3 ≠ n + 4; omega
  TITO := by show n + 2 ≠ n + 3; omega
  TIi1 := by show n + 2 ≠ n; omega
  mem1 := List.mem_cons_self
  zf1 := fun q => by
    rcases List.mem_cons.mp q with q | q
    · have q : n + 4 = n := q
      omega
    · have q : n + 4 = a := List.mem_singleton.mp q
      omega
  Tf1 := fun q => by
    rcases List.mem_cons.mp q with q | q
    · have q : n + 3 = n := q
      omega
    · have q : n + 3 = a := List.mem_singleton.mp q
      omega
  TIi2 := by show n + 2 ≠ n + 1; omega
  mem2 := List.mem_cons_self
  zf2 := fun q => by
    rcases List.mem_cons.mp q with q | q
    · have q : n + 4 = n + 1 := q
      omega
    · have q : n + 4 = b := List.mem_singleton.mp q
      omega
  Tf2 := fun q => by
    rcases List.mem_cons.mp q with q | q
    · have q : n + 3 = n + 1 := q
      omega
    · have q : n + 3 = b := List.mem_singleton.mp q
      omega
  sep1_2 := fun q => by
    rcases List.mem_cons.mp q with q | q
    · have q : n = n + 1 := q
      omega
    · have q : n = b := List.mem_singleton.mp q
      omega
  sep2_1 := fun q => by
    rcases List.mem_cons.mp q with q | q
    · have q : n + 1 = n := q
      omega
    · have q : n + 1 = a := List.mem_singleton.mp q
      omega
def iZipTL (K : PySem.W.Frag) (ta : TA) : TI := fun σ H R => ta σ H fun vs H1 => ∃ a b xs ys, vs = [.ref a, .ref b] ∧ SqT K H1 a xs ∧ SqL K H1 b ys ∧ R (ItZ K a b) H1
theorem pi_zipTL {X : Cx} {e e2 : Expr} {ta : TA} {p pos tpos : Pos} {elts : List Expr} {kk : Nat} (hg : Gl X "zip") (hm : X.mg "zip" = none) (ha : PA X [e, e2] ta)
    (s1 : starEach [e, e2] X.env = (false, eval e X.env) :: starEach [e2] X.env) (s2 : (backTo pos (starEach [e2] X.env)).any (·.1) = false) :
    PI X (.Tuple elts kk tpos) (.Call (.Name "zip" p) [e, e2] [] pos) (iZipTL X.K ta) := ⟨fun pins s σ H R I h => by
  refine Call_ (ld_blt I hg hm PyProof.Rows.boot_zip (PyProof.Rows.callWith_type1 (thn (ha.run pos pins s σ H _ I h) fun us t ⟨vs, H1, J, rv, a, b, xs, ys, ev, qx, qy, q⟩ => ?_) s1 s2))
  subst ev
  cases rv with
  | cons ra rv =>
    cases rv with
    | cons rb rv =>
      cases rv
      cases ra
      cases rb
      obtain ⟨is1, r1, p1, _⟩ := J.tuple qx
      obtain ⟨is2, r2, p2, _⟩ := J.list qy
      have p1 : t.heap.IsTuple a is1.toArray := p1
      have la : a < t.heap.objs.size := by obtain ⟨_, g, _⟩ := p1; exact Heap.lt_size g
      have lb : b < t.heap.objs.size := p2.lt
      refine zip_begins2 (begins_tuple a is1.toArray) (begins_list b is2.toArray) p1 p2.isList fun h1 z1 t1 o1 g1 g2 sz k1 => wpAny_pyIter_zip z1 ?_
      have J2 : Inv X pins σ H1 { t with heap := h1 } := J.kept (t' := t.toks) k1
      have S := zip_sep t.heap.objs.size a b la lb
      refine ⟨t.heap.objs.size + 4, [t.heap.objs.size + 4, t.heap.objs.size + 2, t.heap.objs.size + 3, t.heap.objs.size, t.heap.objs.size + 1], _, _, H1, rfl, J2, turn_zipTL S, ⟨z1, t1, ⟨_, _, o1⟩, ⟨_, g1, rfl, rfl⟩, ⟨_, g2, rfl, rfl⟩⟩, fun c cm => ?_, q⟩
      have ge : t.heap.objs.size ≤ c := by
        simp only [List.mem_cons, List.not_mem_nil, or_false] at cm
        rcases cm with rfl | rfl | rfl | rfl | rfl
        · exact Nat.le_add_right _ 4
        · exact Nat.le_add_right _ 2
        · exact Nat.le_add_right _ 3
        · exact Nat.le_refl _
        · exact Nat.le_add_right _ 1
      exact J.fpOk ge (J.hok.fresh ge)⟩
def dZip : List D → Option (List D)
  | [.tup xs, .lst ys] => some (List.zipWith (fun x y => .tup [x, y]) xs ys)
  | _ => none
def eZip (a : SA) : SA := fun C r st => (a C r st).bind fun ds st => lift (dZip ds) st
section
variable {X : Cx} {C : FEnv} {K : PySem.W.Frag}
theorem walks_zipTL {a b : Addr} {vs ws : List V} {ds es : List D} {o : Wo} (h1 : SqT K o.F a vs) (h2 : o.F b = some (.lst ws)) (r1 : Reps K o vs ds) (r2 : Reps K o ws es) : Walks K (ItZ K a b) o (List.zipWith (fun x y => .tup [x, y]) ds es) := fun o1 H st i s w => by
  have q1 : SqT K H a vs := sqT_up w (sqT_sub s h1)
  have q2 : SqL K H b ws := SqL.of (w.sub _ _ (s.f _ _ h2))
  refine ⟨fun d e => ?_, fun e => ⟨vs, ws, q1, q2, by rw [e, List.length_zipWith, r1.len, r2.len]⟩⟩
  rw [List.getElem?_zipWith] at e
  cases e1 : ds[i]? with
  | none => rw [e1] at e; cases e
  | some x =>
    cases e2 : es[i]? with
    | none => rw [e1, e2] at e; cases e
    | some y =>
      rw [e1, e2] at e
      cases e
      obtain ⟨v, g1, w1⟩ := r1.get e1
      obtain ⟨u, g2, w2⟩ := r2.get e2
      refine ⟨⟨vs, ws, v, u, q1, q2, g1, g2⟩, fun v' H' yl => ?_⟩
      obtain ⟨p, v2, u2, rfl, hp, rfl, y1, y2⟩ := yl
      have z1 := y1 vs q1
      have z2 := y2 ws q2
      rw [g1] at z1
      rw [g2] at z2
      cases z1
      cases z2
      have rr : Reps K o1 [v, u] [x, y] := .cons (w1.mono s) (.cons (w2.mono s) .nil)
      exact ⟨_, put_wd w hp, put_ext w hp, (.tup (SqT.of upd_same) (rr.mono (put_sub w hp)))⟩
theorem h_zip {e e2 : Expr} {ss : SA} {p pos tpos : Pos} {elts : List Expr} {kk : Nat} (hg : Gl X "zip") (hm : X.mg "zip" = none) (ha : HA X C [e, e2] ss) (hl : Long 2 ss)
    (s1 : starEach [e, e2] X.env = (false, eval e X.env) :: starEach [e2] X.env) (s2 : (backTo pos (starEach [e2] X.env)).any (·.1) = false) :
    HI X C (.Tuple elts kk tpos) (.Call (.Name "zip" p) [e, e2] [] pos) (eZip ss) :=
  pi_by (pi_zipTL hg hm ha s1 s2) fun s H R ⟨o, r, st, w, l, h⟩ => by
    unfold eZip at h
    cases e1 : ss C r st with
    | exc _ _ =>
      rw [e1] at h
      refine ⟨o, r, st, w, l, ?_⟩
      rw [e1]
      exact h
    | bad => rw [e1] at h; exact h.elim
    | ok ds st1 =>
      rw [e1] at h
      refine ⟨o, r, st, w, l, ?_⟩
      rw [e1]
      intro vs o1 H1 w1 x1 q1
      obtain ⟨zs, ez, h⟩ := OutR.lift h
      unfold dZip at ez
      split at ez
      · cases ez
        cases q1 with
        | cons a1 q1 =>
          cases q1 with
          | cons b1 q1 =>
            cases q1
            cases a1 with
            | tup f1 g1 =>
              cases b1 with
              | lst f2 g2 => exact ⟨_, _, _, _, rfl, sqT_up w1 f1, SqL.of (w1.sub _ _ f2), h _ o1 H1 w1 x1 (walks_zipTL f1 f2 g1 g2)⟩
      · cases ez
end
end DS
namespace DS
open PySem L2 PyProof.Rows ClX
/-! ## a key in a constant dict; C.m(k=..); v(*a), v a class; bool; displays with stars -/
def dHas (kvs : List (Str × D)) (neg : Bool) : D → Option D
  | .str k => some (.bl ((kvs.lookup k).isSome != neg))
  | _ => none
/-- a class that a name holds is called with a starred argument alone -/
def eMakeVS (sx : SE) (tab : List (Str × Str)) (a : SE) : SE := fun C r st => (sx C r st).bind fun d st => match d with
  | .cls c => match tab.lookup c with
    | some f => eMakeS c f (aStar a aNil) C r st
    | none => .bad
  | _ => .bad
/-- a display, some of it starred -/
def eTupS (a : SA) : SE := fun C r st => (a C r st).bind fun ds st => if ds.length ≤ 100000 then .ok (.tup ds) st else .bad
def eLstS (a : SA) : SE := fun C r st => (a C r st).bind fun ds st => if ds.length ≤ 100000 then .ok (.lst ds) st else .bad
theorem line_big : 100000 ≤ sizeLine := by rw [sizeLine_eq]; decide
section
variable {X : Cx} {C : FEnv} {sa sb sx : SE} {ss sk : SA} {c f m x : Str} {e : Expr} {es : List Expr} {pos p q apos : Pos} {lv : Nat} {kws : List Keyword} {ks : List Str} {n k : Nat} {src : List Src}
/-! ### in a constant dict -/
theorem op_has (neg : Bool) {kvs : List (Str × D)} (hx : DcOk X c kvs) : OpR X (compareOp (if neg then .NotIn else .In)) (fun x y H Q => ∃ k, x = .str k ∧ y = .ref (He.ga X.K c) ∧ Q (.bl ((kvs.lookup k).isSome != neg)) H) := by
  intro pins s σ H x y v u Q I rx ry ⟨k, ex, ey, h⟩
  subst ex ey
  obtain rfl : u = Value.ref (He.ga X.K c) := ry
  obtain ⟨t, rfl⟩ := (show ∃ t, v = Value.str k t from rx)
  obtain ⟨_, f, mo, hv, hn, hsys⟩ := hx
  have hkey : (strKind X.prog X.w).is k (Value.str k t) = true := by
    show Value.isStrOf k (.str k t) = true
    simp [Value.isStrOf]
  have e : (f k).isSome = (kvs.lookup k).isSome := by
    cases el : kvs.lookup k with
    | none => rw [hn k el]; rfl
    | some d =>
      obtain ⟨u, v, a1, _⟩ := hv k d el
      rw [a1]
      rfl
  cases neg
  · refine wpAny_in_of hkey hsys (mo s.heap I.kIn) ⟨.bl (f k).isSome, H, I.tok _, rfl, ?_⟩
    rw [e]
    simpa using h
  · refine wpAny_notIn_of hkey hsys (mo s.heap I.kIn) ⟨.bl (!(f k).isSome), H, I.tok _, rfl, ?_⟩
    rw [e]
    simpa using h
theorem rd_has {neg : Bool} {kvs : List (Str × D)} {s : L2.St} {H : Hp} {Q : VK} (h : tD X.K (wx X) (eUn (dHas kvs neg) sb C) s H Q) :
    tOp (fun x y H Q => ∃ k, x = .str k ∧ y = .ref (He.ga X.K c) ∧ Q (.bl ((kvs.lookup k).isSome != neg)) H) (tD X.K (wx X) (sb C)) (tC (.ref (He.ga X.K c))) s H Q := by
  obtain ⟨o, r, st, w, l, h⟩ := h
  refine ⟨o, r, st, w, l, OutR.b h fun d st1 e1 h y o1 H1 w1 x1 r1 => ?_⟩
  obtain ⟨z, e2, hz⟩ := h.lift
  cases d with
  | str k =>
    cases e2
    cases r1
    exact ⟨k, rfl, rfl, hz _ o1 H1 w1 x1 (.bl _)⟩
  | _ => cases e2
theorem h_has (neg : Bool) {b : Expr} {kvs : List (Str × D)} (hx : DcOk X c kvs) (hg : Gl X c) (hdb : (c == ("__debug__" : Str)) = false) (hb : HE X C b sb) : HE X C (.Compare b [if neg then .NotIn else .In] [.Name c p] pos) (eUn (dHas kvs neg) sb) :=
  pe_by (pe_cmpR (op_has neg hx) hb (pe_glob (v := .ref (He.ga X.K c)) hg hx.1 rfl hdb) (by cases neg <;> rfl)) fun s H Q h => rd_has h
theorem ht_has (neg : Bool) {b : Expr} {kvs : List (Str × D)} (hx : DcOk X c kvs) (hg : Gl X c) (hdb : (c == ("__debug__" : Str)) = false) (hb : HE X C b sb) : HT X C (.Compare b [if neg then .NotIn else .In] [.Name c p] pos) (tE (eUn (dHas kvs neg) sb)) :=
  pt_by (pt_cmpR (op_has neg hx) hb (pe_glob (v := .ref (He.ga X.K c)) hg hx.1 rfl hdb) (by cases neg <;> rfl)) fun s H Q ⟨o, r, st, w, l, h⟩ => by
    refine rd_has ⟨o, r, st, w, l, h.b fun d st1 e1 h v o' H' w' x' q => ?_⟩
    obtain ⟨k, e2, h⟩ := h.lift
    have hd : ∃ k, d = .bl k := by
      unfold eUn at e1
      generalize sb C r st = A at e1
      cases A with
      | ok d1 s1 =>
        have e1 : lift (dHas kvs neg d1) s1 = .ok d st1 := e1
        cases d1 <;> first | (cases e1; done) | (cases e1; exact ⟨_, rfl⟩)
      | exc _ _ => cases e1
      | bad => cases e1
    obtain ⟨k', rfl⟩ := hd
    cases q
    cases e2
    exact ⟨_, rfl, h o' H' w' x'⟩
/-! ### classmethods by keywords -/
theorem h_cmetK {pl : Sem Bool} (hx : CMetOk X C lv c m 1 ks f src) (hr : Room lv X.A) (hgd : X.A.guards = some []) (hg : Gl X c) (hdb : (c == ("__debug__" : Str)) = false) (hk : HK X C kws sk) (hl2 : Long ks.length sk)
    (hall : (backToKw pos (keywordEach kws X.env)).all (·.1.isSome) = true) (hks : (backToKw pos (keywordEach kws X.env)).filterMap (·.1) = ks)
    (hpl : ((backTo pos (starEach [] X.env)).any (·.1) || (backToKw pos (keywordEach kws X.env)).any (·.1.isNone)) = false)
    (ht : eval (.Call (.Attribute (.Name c p) m apos) [] kws pos) X.env = (do
      let ov ← eval (.Name c p) X.env
      standAt apos.atName
      let (f, first) ← holding [ov] (getMethod ov m pl)
      callWith pos f first (backTo pos (starEach [] X.env)) (backToKw pos (keywordEach kws X.env)))) : HE X C (.Call (.Attribute (.Name c p) m apos) [] kws pos) (eCallK f src (aCons (eC (.cls c)) aNil) sk) := by
  refine ⟨fun pins s σ H Q I ⟨o, r, st, w, l, h⟩ => ?_⟩
  have h : OutD X.K (wx X) o H ((sk C r st).bind fun ws st => C f (src.map (pickD [.cls c] ws)) st) Q := h
  obtain ⟨hm, mc, pa, ad, R, cm, F⟩ := hx
  refine PySem.W.methodCall_KW (pl := pl) (ld_glob I hg hm ?_ hdb) ht
  refine getmethcm_ok I R cm fun s2 I2 => ?_
  refine PySem.W.callWith_of hpl (PySem.W.keeps_M (self := .ref (He.ga X.K c)) cm.fi) (evalArgs_kw2_nil hall ?_)
  refine thn (hk.run pos _ s2 σ H (fun zv H2 => ∀ (wv : List Value) (s3 : Shared), Inv X ((s.heap.objs.size, PySem.W.methodObj (.ref ad) (.ref (He.ga X.K c))) :: pins) σ H2 s3 → Vals zv wv → wpAny (model X.prog X.w) X.A (call (.ref s.heap.objs.size) [] (ks.zip wv)) (EP X pins σ Q) X.xe s3) I2 ⟨o, r, st, w, l, h.b fun ws st2 e2 h zv o2 H2 w2 x2 r2 wv s3 I3 rz => ?_⟩) fun wv s3 ⟨zv, H2, I3, rz, q2⟩ => ⟨⟨pin_at I3, I3.kIn⟩, by rw [hks]; exact q2 wv s3 I3 rz⟩
  refine thn (wpAny_call (PySem.W.method_call (pin_at I3) (codeAny_mono (F X.A X.stack s3 H2 [.ref (He.ga X.K c)] wv [.ref (He.ga X.K c)] zv Q (wx X) hr hgd I3.env0 (.cons rfl .nil) rz rfl ?_ ⟨o2, [.cls c], ws, st2, w2, .cons (.cls c) .nil, r2, OutD.later h w2 x2⟩) fun r s' hq => ?_))) fun _ _ y => unpinE (p := (s.heap.objs.size, PySem.W.methodObj (.ref ad) (.ref (He.ga X.K c)))) y
  · rw [r2.len]
    exact hl2 _ _ _ _ _ e2
  · cases r with
    | error e => exact wx_call I3 hq
    | ok fl =>
      cases fl with
      | ret u => exact I3.after hq
      | next => exact False.elim hq
      | brk => exact False.elim hq
      | cont => exact False.elim hq
/-! ### v(*a) -/
theorem h_makeVS {tab : List (Str × Str)} (hx : HE X C (.Name x q) sx) (ht : ∀ c f, tab.lookup c = some f → ∀ n, n ≤ 60 → MkOk X C lv c n [] f [.pos 0, .star 1]) (hr : Room (lv + 1) X.A) (hgd : X.A.guards = some []) (ha : HE X C e sa) :
    HE X C (.Call (.Name x q) [.Starred e p] [] pos) (eMakeVS sx tab sa) := by
  refine ⟨fun pins s σ H Q I ⟨o, r, st, w, l, h⟩ => ?_⟩
  refine wpAny_Call_Name_kw (thn (start_e hx I w l h) fun u0 s0 ⟨xv, H0, I0, rx0, d0, st0, o0, e0, h, w0, x0, r0⟩ => ?_)
  cases d0 with
  | cls c =>
    simp only at h
    split at h
    · rename_i f et
      obtain ⟨hm, ad, M, _⟩ := ht c f et 0 (Nat.zero_le _)
      cases r0
      obtain rfl : u0 = Value.ref (He.ga X.K c) := rx0
      have h : OutD X.K (wx X) o H ((sa C r st0).bind fun d st => (lift (dSeq d) st).bind fun xs st => if (xs ++ []).length ≤ 60 then (C f [.cell st.length, .tup (xs ++ [])] (st ++ [.obj c [] []])).bind fun v st' => frzD st.length v st' else .bad) Q := by
        unfold eMakeS aStar at h
        rw [bind_bind'] at h
        refine (congrArg (fun z => OutD X.K (wx X) o H ((sa C r st0).bind z) Q) ?_).mp h
        funext d st1
        rw [bind_bind']
        rfl
      have h := OutD.later h w0 x0
      refine PySem.W.callWith_S (h₀ := X.base) I.ok.mod.kin M.kp (thn (ha.run pins s0 σ H0 (fun x H1 => ∀ (v : Value) (s1 : Shared), Inv X pins σ H1 s1 → RelV x v → PySem.W.StarOf (model X.prog X.w) X.A X.xe v (fun vs s2 => X.K.In s2.heap ∧ wpAny (model X.prog X.w) X.A (call (.ref (He.ga X.K c)) ([] ++ vs)) (EP X pins σ Q) X.xe s2) s1) I0 ⟨o0, r, st0, w0, l.ext x0, h.b fun d st1 e1 h x o1 H1 w1 x1 r1 => ?_⟩) fun v s1 ⟨x, H1, I1, rv, q1⟩ => q1 v s1 I1 rv) rfl
      intro v s1 I1 rv
      obtain ⟨xs, e3, h⟩ := OutR.liftB h
      obtain ⟨a, vs, rfl, sq, rp⟩ := dSeq_rep w1 r1 e3
      obtain rfl : v = Value.ref a := rv
      refine StX.star_any I1 sq fun us s2 I2 rv => ⟨I2.kIn, ?_⟩
      rw [List.append_nil] at h
      split at h
      · rename_i le
        obtain ⟨_, ad', M', F⟩ := ht c f et _ le
        exact run_mk M' F hr hgd (ws := []) (zs := []) (es := []) I2 rv .nil w1 rp .nil rfl rfl (OutD.later h w1 x1)
      · exact h.elim
    · exact h.elim
  | _ => exact h.elim
/-! ### displays -/
theorem h_tupS {k : Nat} (h : HA X C es ss) : HE X C (.Tuple es k pos) (eTupS ss) :=
  pe_by (pe_tup h) fun s H Q ⟨o, r, st, w, l, h⟩ => by
    refine ⟨o, r, st, w, l, OutR.bx h (fun _ _ z => z) fun ds st1 e1 h xs o1 H1 w1 x1 r1 => ?_⟩
    split at h
    · rename_i c
      refine ⟨by rw [r1.len]; exact Nat.le_trans c line_big, fun p np => ?_⟩
      exact Ret.tup (fun v o' H' w' x' q => h v o' H' w' (x1.trans w1 x') q) w1 r1 np
    · exact h.elim
theorem h_lstS (h : HA X C es ss) : HE X C (.List es pos) (eLstS ss) :=
  pe_by (pe_lst h) fun s H Q ⟨o, r, st, w, l, h⟩ => by
    refine ⟨o, r, st, w, l, OutR.bx h (fun _ _ z => z) fun ds st1 e1 h xs o1 H1 w1 x1 r1 => ?_⟩
    split at h
    · rename_i c
      refine ⟨by rw [r1.len]; exact Nat.le_trans c line_big, fun p np => ?_⟩
      exact Ret.lst (fun v o' H' w' x' q => h v o' H' w' (x1.trans w1 x') q) w1 r1 np
    · exact h.elim
end
end DS
namespace DS
open PySem L2 PyProof.Rows
/-! ## bool(x), x of an own class with __len__ and without __bool__ -/
def dBool : List D → Option D
  | [.int i] => some (.bl (i != 0))
  | [.bl k] => some (.bl k)
  | _ => none
def tellT (v : D) (st : Store) : Res D := match v with
  | .int n => if 0 ≤ n ∧ n < 2 ^ 62 then .ok (.bl (n != 0)) st else .bad
  | _ => .bad
def oBool (tab : List (Str × Str)) (g : List D → Option D) : FEnv → List D → Store → Res D := fun C ds st => match g ds with
  | some v => .ok v st
  | none => match ds with
    | [d] => (match (ownNm d).bind fun c => tab.lookup c with
      | none => .bad
      | some f => (C f [d] st).bind fun v st => tellT v st)
    | _ => .bad
section
variable {prog : Program} {w : World} {A : Around} {E : Value → Shared → Prop} {s : Shared} {K : PySem.W.Frag} {x c fa : Addr} {ox : Obj} {od : Option Obj}
/-- the back of a __len__, for the truth -/
def TruBack (Q : Bool → Shared → Prop) (v : Value) (s : Shared) : Prop := match v with
  | .int n _ => (0 ≤ n ∧ n < 2 ^ 63) ∧ ∀ tk, Q (n != 0) { s with toks := tk }
  | _ => False
open PySem.W in
theorem special_none {name : Str} {args : List Value} {Q : Option Value → Shared → Prop} (X : K.In s.heap) (I : InstAt s.heap x ox c od) (hf : findIn K (.ref c) name = some none) (h : Q none s) : wpAny (model prog w) A (callSpecial? (.ref x) name args) Q E s := by
  unfold callSpecial? specialOf
  exact wpAny_bind (wpAny_bind (I.type.here ((looks_findIn X hf).here (wpAny_pure h))))
open PySem.W in
theorem truthy_len {Q : Bool → Shared → Prop} (kx : K.In s.heap) (J : InstAt s.heap x ox c od) (fb : findIn K (.ref c) "__bool__" = some none) (fx : findIn K (.ref c) "__len__" = some (some (.ref fa))) (ff : isFn K (.ref fa) = true)
    (k : wpAny (model prog w) A.in1 (call (.ref fa) [.ref x]) (TruBack Q) E s) : wpAny (model prog w) A (truthy (.ref x)) Q E s := by
  have key : wpAny (model prog w) A (runValue (.builtin "len" ⟨[.ref x], []⟩)) (fun r s' => ∃ n t, r = .int n t ∧ Q (n != 0) s') E s := by
    refine wpAny_runValue (codeAny_builtin entry_len ?_)
    rw [Around.under_plainId plain_len _]
    unfold Builtin.«len»
    refine wpAny_bind (m := oneArg "len" _) (wpAny_pure (wpAny_bind (m := callSpecial? (.ref x) (Str.ofString "__len__")) (special_fn kx J fx (beq_iff_eq.mp ff) (wpAny_mono k (fun v s' kv => ?_) fun _ _ y => y))))
    cases v with
    | int n u =>
      obtain ⟨⟨n0, n1⟩, kq⟩ := kv
      refine wpAny_bind (wpAny_holding (wpAny_pure (wpAny_bind (wpAny_letGo ?_))))
      show wpAny _ _ (if n < 0 then _ else _) _ _ _
      rw [if_neg (Int.not_lt.mpr n0)]
      show wpAny _ _ (if n ≥ 2 ^ 63 then _ else _) _ _ _
      rw [if_neg (Int.not_le.mpr n1)]
      exact wpAny_bind (wpAny_mkInt (wpAny_pure ⟨_, _, rfl, kq _⟩))
    | _ => exact kv.elim
  have hsp : ∀ {Q' : Option Value → Shared → Prop}, Q' (some (.ref fa)) s → wpAny (model prog w) A (specialOf (.ref x) "__len__") Q' E s := fun q => by
    unfold specialOf
    exact wpAny_bind (J.type.here ((looks_findIn kx fx).here q))
  unfold truthy
  first
    | refine wpAny_bind (special_none (name := Str.ofString "__bool__") kx J fb ?_)
    | refine wpAny_bind (wpAny_pure (wpAny_bind (special_none (name := Str.ofString "__bool__") kx J fb ?_)))
  first
    | refine wpAny_bind (hsp ?_)
    | refine wpAny_bind (wpAny_pure (wpAny_bind (hsp ?_)))
  first
    | exact wpAny_bind (wpAny_mono key (fun r s' h' => by obtain ⟨n, t, rfl, hq⟩ := h'; exact wpAny_pure hq) fun _ _ e => e)
    | exact wpAny_bind (wpAny_pure (wpAny_bind (wpAny_mono key (fun r s' h' => by obtain ⟨n, t, rfl, hq⟩ := h'; exact wpAny_pure hq) fun _ _ e => e)))
open PySem.W in
theorem bool_own {Q : Value → Shared → Prop} (kx : K.In s.heap) (J : InstAt s.heap x ox c od) (fb : findIn K (.ref c) "__bool__" = some none) (fx : findIn K (.ref c) "__len__" = some (some (.ref fa))) (ff : isFn K (.ref fa) = true)
    (k : wpAny (model prog w) A.in1.in1.in1 (call (.ref fa) [.ref x]) (TruBack fun b s' => Q (.bool b) s') E s) : wpAny (model prog w) A (call (.type "bool") [.ref x]) Q E s := by
  refine callType_codes (T := "bool") (Bi := Builtin.«object.__init__») (Q₁ := fun r s₁ => ∃ b, r = .bool b ∧ Q r s₁) PySem.F.called_bool (PySem.F.typeCall_bool_1 _) PySem.F.entry_object_init ?_ ?_
  · refine codeAny_of_tree ?_
    show wpAny _ A.in1.in1 (do checkBuiltinCall "bool.__new__" ⟨[.type "bool", .ref x], []⟩; again (.builtin "bool.__new__" ⟨[.type "bool", .ref x], []⟩)) _ _ s
    refine wpAny_bind (wpAny_of_eq (PySem.F.newCall_bool_1 _) (wpAny_pure ⟨plainId_quiet (by decide +kernel) _, codeAny_builtin PySem.F.entry_bool_new ?_⟩))
    rw [Around.under_plainId (by decide +kernel) _]
    show wpAny _ _ (do
      if !(← isType (.type "bool")) then
        rule "bool.__new__.no-type"; raiseError "TypeError" s!"bool.__new__(X): X is not a type object ({← typeNameOf (.type "bool")})"
      if !(← isSubtype (.type "bool") (.type "bool")) then
        rule "bool.__new__.no-subtype"; raiseError "TypeError" s!"bool.__new__({← typeName (.type "bool")}): {← typeName (.type "bool")} is not a subtype of bool"
      match ← someArgs "bool" 0 1 ⟨[.ref x], []⟩ with
      | x :: _ => ret (.bool (← truthy x))
      | [] => ret (.bool false)) _ _ s
    refine wpAny_bind (wpAny_pure ?_)
    refine wpAny_bind (wpAny_of_eq PySem.F.conv_sub_bool ?_)
    refine wpAny_bind (wpAny_pure ?_)
    refine wpAny_bind (truthy_len kx J fb fx ff (wpAny_mono k (fun v s' kv => ?_) fun _ _ y => y))
    cases v with
    | int n u => exact ⟨kv.1, fun tk => wpAny_pure ⟨_, rfl, kv.2 tk⟩⟩
    | _ => exact kv.elim
  · rintro obj s₁ ⟨b, rfl, hq⟩
    exact ⟨PySem.typeIs_bool _ _, PySem.F.args_object_init_2 _ _, object_init_meets PySem.F.called_bool.init.lookup PySem.F.called_bool.made (by decide) prog w A.in1 _ s₁ ⟨PySem.typeIs_bool _ _, rfl, hq⟩⟩
end
section
variable {X : Cx} {C : FEnv} {lv : Nat} {tab : List (Str × Str)} {g : List D → Option D}
theorem call_dBool : CallR X (.type "bool") (rDs X.K dBool) := fun pins s σ H xs us Q I rv ⟨o, st, ds, r, w, rs, eg, k⟩ => by
  unfold dBool at eg
  split at eg
  · cases eg
    cases rs with
    | cons r1 rn =>
      cases rn
      cases r1
      cases rv with
      | cons rx rn =>
        cases rn
        obtain ⟨t, rfl⟩ := rx
        exact call_bool_int ⟨.bl _, H, I, rfl, k _ o H w (.refl o H) (.bl _)⟩
  · cases eg
    cases rs with
    | cons r1 rn =>
      cases rn
      cases r1
      cases rv with
      | cons rx rn =>
        cases rn
        cases rx
        exact call_bool_bool ⟨.bl _, H, I, rfl, k _ o H w (.refl o H) (.bl _)⟩
  · cases eg
def OwnOkB (X : Cx) (C : FEnv) (lv : Nat) (tab : List (Str × Str)) : Prop := ∀ c f, tab.lookup c = some f → MethOk X C lv c "__len__" 1 [] f [.pos 0] ∧ PySem.W.findIn X.K (.ref (He.ga X.K c)) "__bool__" = some none
theorem tellB_out' {K : PySem.W.Frag} {E : XK} {o : Wo} {H : Hp} {r : Res D} {Q : VK} (h : OutD K E o H (r.bind fun v st => tellT v st) Q) : OutD K E o H r (fun v H' => ∃ n : Int, v = .int n ∧ 0 ≤ n ∧ n < 2 ^ 62 ∧ Q (.bl (n != 0)) H') := by
  cases r with
  | ok d st =>
    have h : OutD K E o H (tellT d st) Q := h
    unfold tellT at h
    split at h
    · split at h
      · rename_i c
        intro v o' H' w e q
        cases q
        exact ⟨_, rfl, c.1, c.2, h _ o' H' w e (.bl _)⟩
      · exact h.elim
    · exact h.elim
  | exc _ _ => exact h
  | bad => exact h
theorem or_bool (hr : Room (lv + 1) X.A) (hgd : X.A.guards = some []) (ht : OwnOkB X C lv tab) (hg : CallR X (.type "bool") (rDs X.K g)) : CallR X (.type "bool") (rDsC X.K (wx X) C (oBool tab g)) := fun pins s σ H xs us Q I rv ⟨o, st, ds, w, rs, h⟩ => by
  unfold oBool at h
  split at h
  · rename_i z e1
    exact hg pins s σ H xs us Q I rv ⟨o, st, ds, z, w, rs, e1, h⟩
  · split at h
    · rename_i d hn0
      split at h
      · exact h.elim
      · rename_i f e1
        obtain ⟨c, e0, e1⟩ := Option.bind_eq_some_iff.mp e1
        obtain ⟨v, rfl, r1⟩ := reps1 rs
        cases rv with
        | cons rx rn =>
          cases rn
          obtain ⟨⟨cl, ad, mt, F⟩, fb⟩ := ht c f e1
          obtain ⟨a, ox, od, rfl, rfl, J⟩ := inst_of I w rx r1 e0
          have r3 : Room lv X.A.in1.in1.in1 := ⟨hr.hd, by have := hr.dp; show X.A.depth + 3 * lv + 5 < _; omega, by have := hr.un; show X.A.units + 1 + 1 + 1 + 16 * lv + 200 < _; omega⟩
          refine bool_own (fa := ad) I.kIn J fb mt.at_ mt.fn ?_
          refine wpAny_call (codeAny_mono (F X.A.in1.in1.in1 X.stack s H [.ref a] [] [.ref a] [] (fun v H' => ∃ n : Int, v = .int n ∧ 0 ≤ n ∧ n < 2 ^ 62 ∧ Q (.bl (n != 0)) H') (wx X) r3 hgd I.env0.in1.in1.in1 (.cons rfl .nil) .nil rfl rfl ⟨o, [d], [], st, w, .cons r1 .nil, .nil, tellB_out' h⟩) fun r s' hq => ?_)
          cases r with
          | error e => exact wx_call I hq
          | ok fl =>
            cases fl with
            | ret u =>
              obtain ⟨v, H', I3, rv', n, ex, n0, n1, q3⟩ := I.after hq
              subst ex
              obtain ⟨t, rfl⟩ := (show ∃ t, u = Value.int n t from rv')
              exact ⟨⟨n0, by omega⟩, fun tk => ⟨.bl (n != 0), H', I3.tok _, rfl, q3⟩⟩
            | next => exact False.elim hq
            | brk => exact False.elim hq
            | cont => exact False.elim hq
    · exact h.elim
end
end DS
namespace DS
open PySem L2 PyProof.Rows
/-! ## list(zip(t, l)) -/
section
variable {prog : Program} {w : World} {A : Around} {E : Value → Shared → Prop} {s : Shared} {z TI TO T i1 i2 : Addr} {fp1 fp2 : List Addr} {n1 n2 i : Nat} {P1 P2 : Nat → Value → Prop} {St1 St2 : Nat → Heap → Prop} {f : Bool} {oT : Obj}
theorem zipD2_item_held {Q : Value → Shared → Prop} (S : ZipSep2 z TI TO i1 i2 fp1 fp2) (D1 : Draws prog w A i1 fp1 n1 P1 St1) (D2 : Draws prog w A i2 fp2 n2 P2 St2)
    (hz : IsZipHeld s.heap z TI TO T f) (hT : s.heap.get? T = some oT) (hTI : IsTupOf2 s.heap TI (.ref i1) (.ref i2)) (st1 : St1 i s.heap) (st2 : St2 i s.heap) (hlt1 : i < n1) (hlt2 : i < n2)
    (hQ : ∀ x1 x2 h' tk, P1 i x1 → P2 i x2 → IsZipHeld h' z TI TO T true → St1 (i + 1) h' → St2 (i + 1) h' → IsTupOf2 h' s.heap.objs.size x1 x2 → h'.objs.size = s.heap.objs.size + 1 →
      (∀ c o, c ≠ z → c ≠ i1 → c ≠ i2 → s.heap.get? c = some o → h'.get? c = some o) → Q (.ref s.heap.objs.size) { s with heap := h', toks := tk }) :
    wpAny (model prog w) A (Builtin.«zip.__next__» ⟨[.ref z], []⟩) (fun fin s' => ∃ v, fin = .done (.ret v) ∧ Q v s') E s := by
  obtain ⟨hp, g, d, tk0, os⟩ := s
  show wpAny _ _ (field (.ref z) 2 >>= _) _ _ _
  refine wpAny_bind (wpAny_field hz rfl (x := .bool false) rfl ?_)
  show wpAny _ _ (field (.ref z) 3 >>= _) _ _ _
  refine wpAny_bind (wpAny_field hz rfl (x := .ref TI) rfl ?_)
  refine wpAny_bind (wpAny_seqItems hTI rfl ?_)
  show wpAny _ _ (Builtin.SmallTypes.ownedTupleIsFree (.ref z) >>= _) _ _ _
  refine wpAny_bind (wpAny_tupleHeld_zip hz hT fun g0 hz0 hs0 => ?_)
  replace hs0 : Heap.SameBut z hp g0 := hs0
  simp only [Bool.false_eq_true, if_false]
  refine wpAny_bind ?_
  rw [← Array.forIn_toList]
  simp only [List.forIn_cons, List.forIn_nil]
  refine wpAny_bind (wpAny_bind (wpAny_holding ?_))
  show wpAny _ _ (Builtin.SmallTypes.nextOf (.ref i1) >>= _) _ _ ⟨g0, g, d, tk0, os⟩
  refine wpAny_bind (D1.item i _ _ _ hlt1 (D1.over st1 hs0 S.zf1) fun x1 p1 tk1 hx1 sn1 hp1 => wpAny_pure ?_)
  replace hp1 : Heap.SameBut i1 g0 p1 := hp1
  refine wpAny_pure ?_
  refine wpAny_bind (wpAny_bind (wpAny_holding ?_))
  show wpAny _ _ (Builtin.SmallTypes.nextOf (.ref i2) >>= _) _ _ ⟨p1, g, d, tk1, os⟩
  refine wpAny_bind (D2.item i _ _ _ hlt2 (D2.over (D2.over st2 hs0 S.zf2) hp1 S.sep1_2) fun x2 p2 tk2 hx2 sn2 hp2 => wpAny_pure ?_)
  replace hp2 : Heap.SameBut i2 p1 p2 := hp2
  refine wpAny_pure (wpAny_pure ?_)
  show wpAny _ _ (newTuple [x1, x2] >>= _) _ _ _
  refine wpAny_bind (wpAny_newTuple ?_)
  have hsz : p2.objs.size = hp.objs.size := by rw [hp2.1, hp1.1, hs0.1]
  have hzz : IsZipHeld p2 z TI TO T true := hp2.extBut _ _ S.zi2 (hp1.extBut _ _ S.zi1 hz0)
  have hkk : ∀ c o, c ≠ z → c ≠ i1 → c ≠ i2 → hp.get? c = some o → p2.get? c = some o := fun c o cz c1 c2 e => hp2.extBut _ _ c2 (hp1.extBut _ _ c1 (hs0.extBut _ _ cz e))
  have hj1 : St1 (i + 1) p2 := D1.over sn1 hp2 S.sep2_1
  refine wpAny_pure ⟨_, rfl, ?_⟩
  show Q (.ref p2.objs.size) _
  have hp3 : IsTupOf2 (p2.push { cls := .type "tuple", data := .seq #[x1, x2] }) p2.objs.size x1 x2 := Heap.get?_push_size _ rfl
  have hz4 : (p2.push { cls := .type "tuple", data := .seq #[x1, x2] }).objs.size = p2.objs.size + 1 := Heap.size_push ..
  rw [hsz] at hp3 hz4 ⊢
  exact hQ x1 x2 _ tk2 hx1 hx2 (Heap.get?_push_of_some _ hzz) (D1.frame _ _ _ hj1 fun b _ o e => Heap.get?_push_of_some _ e) (D2.frame _ _ _ sn2 fun b _ o e => Heap.get?_push_of_some _ e) hp3 hz4 fun c o c1 c2 c3 e => Heap.get?_push_of_some _ (hkk c o c1 c2 c3 e)
theorem zipD2_end_held {Q : Fin → Shared → Prop} (S : ZipSep2 z TI TO i1 i2 fp1 fp2) (D1 : Draws prog w A i1 fp1 n1 P1 St1) (D2 : Draws prog w A i2 fp2 n2 P2 St2)
    (hz : IsZipHeld s.heap z TI TO T f) (hT : s.heap.get? T = some oT) (hTI : IsTupOf2 s.heap TI (.ref i1) (.ref i2)) (st1 : St1 i s.heap) (st2 : St2 i s.heap) (hle1 : i ≤ n1) (hle2 : i ≤ n2) (hend : i = n1 ∨ i = n2)
    (hE : ∀ h' tk e, (∀ c o, c ≠ z → c ≠ i1 → c ≠ i2 → s.heap.get? c = some o → h'.get? c = some o) → (∃ o, h'.get? e = some o ∧ o.cls = .type "StopIteration") → E (.ref e) { s with heap := h', toks := tk }) :
    wpAny (model prog w) A (Builtin.«zip.__next__» ⟨[.ref z], []⟩) Q E s := by
  obtain ⟨hp, g, d, tk0, os⟩ := s
  show wpAny _ _ (field (.ref z) 2 >>= _) _ _ _
  refine wpAny_bind (wpAny_field hz rfl (x := .bool false) rfl ?_)
  show wpAny _ _ (field (.ref z) 3 >>= _) _ _ _
  refine wpAny_bind (wpAny_field hz rfl (x := .ref TI) rfl ?_)
  refine wpAny_bind (wpAny_seqItems hTI rfl ?_)
  show wpAny _ _ (Builtin.SmallTypes.ownedTupleIsFree (.ref z) >>= _) _ _ _
  refine wpAny_bind (wpAny_tupleHeld_zip hz hT fun g0 hz0 hs0 => ?_)
  replace hs0 : Heap.SameBut z hp g0 := hs0
  simp only [Bool.false_eq_true, if_false]
  refine wpAny_bind ?_
  rw [← Array.forIn_toList]
  simp only [List.forIn_cons, List.forIn_nil]
  refine wpAny_bind (wpAny_bind (wpAny_holding ?_))
  show wpAny _ _ (Builtin.SmallTypes.nextOf (.ref i1) >>= _) _ _ ⟨g0, g, d, tk0, os⟩
  by_cases hlt1 : i < n1
  · refine wpAny_bind (D1.item i _ _ _ hlt1 (D1.over st1 hs0 S.zf1) fun x1 p1 tk1 hx1 sn1 hp1 => wpAny_pure ?_)
    replace hp1 : Heap.SameBut i1 g0 p1 := hp1
    refine wpAny_pure ?_
    have hi2 : i = n2 := by omega
    refine wpAny_bind (wpAny_bind (wpAny_holding ?_))
    show wpAny _ _ (Builtin.SmallTypes.nextOf (.ref i2) >>= _) _ _ ⟨p1, g, d, tk1, os⟩
    refine wpAny_bind (D2.done ⟨p1, g, d, tk1, os⟩ _ _ (by rw [← hi2]; exact (D2.over (D2.over st2 hs0 S.zf2) hp1 S.sep1_2)) fun q e hq he => ?_)
    replace hq : Heap.ExtBut i2 p1 q := hq
    exact hE q tk1 e (fun c o cz c1 c2 x => hq _ _ c2 (hp1.extBut _ _ c1 (hs0.extBut _ _ cz x))) he
  · have hi1 : i = n1 := by omega
    refine wpAny_bind (D1.done ⟨g0, g, d, tk0, os⟩ _ _ (by rw [← hi1]; exact (D1.over st1 hs0 S.zf1)) fun q e hq he => ?_)
    replace hq : Heap.ExtBut i1 g0 q := hq
    exact hE q tk0 e (fun c o cz c1 c2 x => hq _ _ c1 (hs0.extBut _ _ cz x)) he
end
section
variable {prog : Program} {w : World} {A : Around} {E : Value → Shared → Prop} {s : Shared} {z TI TO T i1 i2 : Addr} {fp1 fp2 : List Addr} {n1 n2 i : Nat} {P1 P2 : Nat → Value → Prop} {St1 St2 : Nat → Heap → Prop} {f : Bool} {oT : Obj}
theorem next_zip_held {Q : Option Value → Shared → Prop} (S : ZipSep2 z TI TO i1 i2 fp1 fp2) (D1 : Draws prog w A.in1 i1 fp1 n1 P1 St1) (D2 : Draws prog w A.in1 i2 fp2 n2 P2 St2)
    (hz : IsZipHeld s.heap z TI TO T f) (hT : s.heap.get? T = some oT) (hTI : IsTupOf2 s.heap TI (.ref i1) (.ref i2)) (st1 : St1 i s.heap) (st2 : St2 i s.heap) (hlt1 : i < n1) (hlt2 : i < n2)
    (hQ : ∀ x1 x2 h' tk, P1 i x1 → P2 i x2 → IsZipHeld h' z TI TO T true → St1 (i + 1) h' → St2 (i + 1) h' → IsTupOf2 h' s.heap.objs.size x1 x2 → h'.objs.size = s.heap.objs.size + 1 →
      (∀ c o, c ≠ z → c ≠ i1 → c ≠ i2 → s.heap.get? c = some o → h'.get? c = some o) → Q (some (.ref s.heap.objs.size)) { s with heap := h', toks := tk }) :
    wpAny (model prog w) A (pyNext (.ref z)) Q E s := by
  have hTy : s.TypeIs (.ref z) "zip" := ⟨_, hz, rfl⟩
  unfold pyNext
  exact wpAny_bind (wpAny_attempt (wpAny_callSpecial?_slot (name := Str.ofString "__next__") hTy F.slot_zip_next
    (wpAny_call_entry F.slot_zip_next hTy F.entry_zip_next
      (zipD2_item_held S D1 D2 hz hT hTI st1 st2 hlt1 hlt2 fun x1 x2 h' tk y1 y2 b1 b2 b3 b4 b5 b6 => wpAny_pure (hQ x1 x2 h' tk y1 y2 b1 b2 b3 b4 b5 b6)) (F.args_zip_next_1 _))))
theorem end_zip_held {Q : Option Value → Shared → Prop} (S : ZipSep2 z TI TO i1 i2 fp1 fp2) (D1 : Draws prog w A.in1 i1 fp1 n1 P1 St1) (D2 : Draws prog w A.in1 i2 fp2 n2 P2 St2)
    (hz : IsZipHeld s.heap z TI TO T f) (hT : s.heap.get? T = some oT) (hTI : IsTupOf2 s.heap TI (.ref i1) (.ref i2)) (st1 : St1 i s.heap) (st2 : St2 i s.heap) (hle1 : i ≤ n1) (hle2 : i ≤ n2) (hend : i = n1 ∨ i = n2)
    (hQ : ∀ h' tk, (∀ c o, c ≠ z → c ≠ i1 → c ≠ i2 → s.heap.get? c = some o → h'.get? c = some o) → Q none { s with heap := h', toks := tk }) : wpAny (model prog w) A (pyNext (.ref z)) Q E s := by
  have hTy : s.TypeIs (.ref z) "zip" := ⟨_, hz, rfl⟩
  unfold pyNext
  refine wpAny_bind (wpAny_attempt (wpAny_callSpecial?_slot (name := Str.ofString "__next__") hTy F.slot_zip_next
    (wpAny_call_entry F.slot_zip_next hTy F.entry_zip_next (zipD2_end_held S D1 D2 hz hT hTI st1 st2 hle1 hle2 hend fun h' tk e hk he => ?_) (F.args_zip_next_1 _))))
  obtain ⟨o, ho, hc⟩ := he
  refine wpAny_bind (wpAny_isInstance (T := "StopIteration") (b := true) ⟨o, ho, hc⟩ isSubtype_stop ?_)
  exact wpAny_pure (hQ _ _ hk)
end
/-! ### the loop that extends a list, by what stands at each turn -/
abbrev LsObj (acc : Array Value) (c : Nat) : Obj := { cls := .type "list", dict := none, data := .seq acc c, slots := #[] }
section
variable {prog : Program} {w : World} {A : Around} {R : Result → Shared → Prop} {S I : Addr} {res : Value} {N : Nat}
theorem ext_loopG (J : Nat → Shared → Prop) (hn : N ≤ sizeLine)
    (turn : ∀ i s, i < N → J i s → wpAny (model prog w) A.in1 (pyNext (.ref I)) (fun r s' => ∃ v acc c, r = some v ∧ s'.heap.get? S = some (LsObj acc c) ∧ acc.size = i ∧ J (i + 1) { s' with heap := s'.heap.update S (Obj.mapSeq (·.push v)) }) (fun e s' => R (.error e) s') s)
    (fin : ∀ s, J N s → wpAny (model prog w) A.in1 (pyNext (.ref I)) (fun r s' => r = none ∧ R (.ok (.ret res)) s') (fun e s' => R (.error e) s') s) :
    ∀ (k i : Nat) (s : Shared), N - i = k → i ≤ N → J i s → codeAny (model prog w) A (.builtin "list.extend.loop" ⟨[.ref S, .ref I, res], []⟩) R s := by
  intro k
  induction k with
  | zero =>
    intro i s hk hi hj
    have hin : i = N := by omega
    subst hin
    refine codeAny_builtin F.entry_extend_loop ?_
    rw [Around.under_plainId F.plain_extend_loop _]
    show wpAny _ A.in1 (pyNext (.ref I) >>= _) _ _ s
    refine wpAny_bind (wpAny_mono (fin s hj) (fun r s' h => ?_) fun _ _ e => e)
    obtain ⟨rfl, h⟩ := h
    exact wpAny_pure h
  | succ k ih =>
    intro i s hk hi hj
    have hlt : i < N := by omega
    refine codeAny_builtin F.entry_extend_loop ?_
    rw [Around.under_plainId F.plain_extend_loop _]
    show wpAny _ A.in1 (pyNext (.ref I) >>= _) _ _ s
    refine wpAny_bind (wpAny_mono (turn i s hlt hj) (fun r s' h => ?_) fun _ _ e => e)
    obtain ⟨v, acc, c, rfl, hS', hsz, hj'⟩ := h
    show wpAny _ A.in1 (updateSeq S (·.push v) >>= _) _ _ _
    refine wpAny_bind ?_
    refine wpAny_updateSeq hS' rfl (wpAny_pure ⟨plainId_quiet F.plain_extend_loop _, ih (i + 1) _ (by omega) hlt hj'⟩) (by rw [hsz]; omega) (by show (acc.push v).size ≤ sizeLine + 1; rw [Array.size_push, hsz]; omega)
end
theorem zip_no_len : typeLookup (.type "zip") "__len__" = pure none := by rw [typeLookup_type, builtinLookup_eq_fast]; kernel_rfl
theorem zip_no_hint : typeLookup (.type "zip") "__length_hint__" = pure none := by rw [typeLookup_type, builtinLookup_eq_fast]; kernel_rfl
section
variable {prog : Program} {w : World} {A : Around} {E : Value → Shared → Prop} {s : Shared} {z TI TO S : Addr} {f0 : Value} {N : Nat}
theorem zip_hint {Q : Bool → Shared → Prop} (hz : IsZip s.heap z TI TO f0) (h : Q true s) : wpAny (model prog w) A (Builtin.List.listLengthHint (.ref z)) Q E s := by
  have hT : s.TypeIs (.ref z) "zip" := ⟨_, hz, rfl⟩
  unfold Builtin.List.listLengthHint
  refine wpAny_bind (wpAny_specialOf hT zip_no_len ?_)
  show wpAny _ _ (specialOf (Value.ref z) (Str.ofString "__length_hint__") >>= _) _ _ _
  refine wpAny_bind (wpAny_specialOf hT zip_no_hint ?_)
  exact wpAny_pure h
theorem listz_extend {R : Result → Shared → Prop} (J : Nat → Shared → Prop) (hn : N ≤ sizeLine) (hSz : S ≠ z) (res : Value) (c₀ : Nat) (hS : s.heap.get? S = some (LsObj #[] c₀)) (hz : IsZip s.heap z TI TO f0)
    (start : ∀ h' c, (∀ b o, b ≠ S → s.heap.get? b = some o → h'.get? b = some o) → h'.get? S = some (LsObj #[] c) → J 0 { s with heap := h' })
    (turn : ∀ i s, i < N → J i s → wpAny (model prog w) A.in1 (pyNext (.ref z)) (fun r s' => ∃ v acc c, r = some v ∧ s'.heap.get? S = some (LsObj acc c) ∧ acc.size = i ∧ J (i + 1) { s' with heap := s'.heap.update S (Obj.mapSeq (·.push v)) }) (fun e s' => R (.error e) s') s)
    (fin : ∀ s, J N s → wpAny (model prog w) A.in1 (pyNext (.ref z)) (fun r s' => r = none ∧ R (.ok (.ret res)) s') (fun e s' => R (.error e) s') s) :
    wpAny (model prog w) A.in1 (Builtin.List.listExtendWith (.ref S) (.ref z) res)
      (fun fin s' => match fin with | .done f => R (.ok f) s' | .again c' => c'.quiet = true ∧ codeAny (model prog w) A c' R s') (fun e s' => R (.error e) s') s := by
  have hT : s.TypeIs (.ref z) "zip" := ⟨_, hz, rfl⟩
  have key : ∀ (h : Heap) (c₁ : Nat), (∀ b o, b ≠ S → s.heap.get? b = some o → h.get? b = some o) → h.get? S = some (LsObj #[] c₁) →
      codeAny (model prog w) A (.builtin "list.extend.loop" ⟨[.ref S, .ref z, res], []⟩) R { s with heap := h } := fun h c₁ hk hS₁ => ext_loopG J hn turn fin _ 0 _ rfl (Nat.zero_le _) (start h c₁ hk hS₁)
  unfold Builtin.List.listExtendWith
  refine wpAny_bind (wpAny_typeOf (T := "zip") hT ?_)
  have h1 : Builtin.List.listSameRef (.ref S) (.ref z) = false := by simp [Builtin.List.listSameRef, hSz]
  have h2 : (Value.type "zip" == Value.type "list") = false := by decide
  have h3 : (Value.type "zip" == Value.type "tuple") = false := by decide
  simp only [h1, h2, h3, Bool.or_false, Bool.false_eq_true, if_false]
  refine wpAny_bind (wpAny_pyIter_zip hz ?_)
  refine wpAny_bind (wpAny_holding (zip_hint hz ?_))
  refine wpAny_ite_split (fun _ => ?_) (fun _ => wpAny_pure ⟨plainId_quiet PySem.F.plain_extend_loop _, key _ c₀ (fun b o _ e => e) hS⟩)
  refine wpAny_bind (wpAny_rule ?_)
  refine wpAny_bind ?_
  show wpAny _ _ (updateSeq S (·.push .none) >>= fun _ => updateSeq S (·.pop)) _ _ _
  refine wpAny_bind (wpAny_updateSeq hS rfl ?_)
  have hS₂ := Heap.get?_update_self (Obj.mapSeq (·.push Value.none)) hS rfl
  refine wpAny_updateSeq (hz := by seq_fits) hS₂ rfl ?_
  have hS₃ := Heap.get?_update_self (Obj.mapSeq (·.pop)) hS₂ rfl
  refine wpAny_pure ⟨plainId_quiet PySem.F.plain_extend_loop _, key _ _ (fun b o hb e => ?_) hS₃⟩
  exact (Heap.get?_update_other _ _ (Ne.symm hb)).trans ((Heap.get?_update_other _ _ (Ne.symm hb)).trans e)
theorem listz_init {R : Result → Shared → Prop} (J : Nat → Shared → Prop) (hn : N ≤ sizeLine) (hSz : S ≠ z) (hS : s.heap.get? S = some (LsObj #[] 0)) (hz : IsZip s.heap z TI TO f0)
    (start : ∀ h' c, (∀ b o, b ≠ S → s.heap.get? b = some o → h'.get? b = some o) → h'.get? S = some (LsObj #[] c) → J 0 { s with heap := h' })
    (turn : ∀ i s, i < N → J i s → wpAny (model prog w) A.in1 (pyNext (.ref z)) (fun r s' => ∃ v acc c, r = some v ∧ s'.heap.get? S = some (LsObj acc c) ∧ acc.size = i ∧ J (i + 1) { s' with heap := s'.heap.update S (Obj.mapSeq (·.push v)) }) (fun e s' => R (.error e) s') s)
    (fin : ∀ s, J N s → wpAny (model prog w) A.in1 (pyNext (.ref z)) (fun r s' => r = none ∧ R (.ok (.ret .none)) s') (fun e s' => R (.error e) s') s) :
    wpAny (model prog w) A.in1 (Builtin.«list.__init__» ⟨[.ref S, .ref z], []⟩)
      (fun fin s' => match fin with | .done f => R (.ok f) s' | .again c' => c'.quiet = true ∧ codeAny (model prog w) A c' R s') (fun e s' => R (.error e) s') s := by
  show wpAny _ _ (do let old ← Builtin.List.listItems (.ref S); Builtin.List.listUpdate (.ref S) (fun _ => #[]); letGo old.toList.reverse; Builtin.List.listExtendWith (.ref S) (.ref z) .none) _ _ s
  refine wpAny_bind ?_
  unfold Builtin.List.listItems
  refine wpAny_bind (wpAny_seqItems hS rfl (wpAny_pure ?_))
  show wpAny _ _ (updateSeq S (fun _ => #[]) >>= fun _ => letGo (#[] : Array Value).toList.reverse >>= fun _ => Builtin.List.listExtendWith (.ref S) (.ref z) .none) _ _ s
  refine wpAny_bind (wpAny_updateSeq hS rfl ?_)
  have hS₂ := Heap.get?_update_self (Obj.mapSeq (fun _ => (#[] : Array Value))) hS rfl
  have oth : ∀ b o, b ≠ S → s.heap.get? b = some o → (s.heap.update S (Obj.mapSeq (fun _ => (#[] : Array Value)))).get? b = some o :=
    fun b o hb e => (Heap.get?_update_other _ _ (Ne.symm hb)).trans e
  refine wpAny_bind (wpAny_letGo ?_)
  exact listz_extend J hn hSz .none _ hS₂ (oth _ _ hSz.symm hz) (fun h' c k e => start h' c (fun b o hb q => k b o hb (oth b o hb q)) e) turn fin
theorem listz_call {Q : Value → Shared → Prop} (J : Nat → Shared → Prop) (hn : N ≤ sizeLine) (hz : IsZip s.heap z TI TO f0)
    (start : ∀ h' c, (∀ b o, s.heap.get? b = some o → h'.get? b = some o) → h'.get? s.heap.objs.size = some (LsObj #[] c) → J 0 { s with heap := h' })
    (turn : ∀ i t, i < N → J i t → ∀ (F : Value → Shared → Prop), wpAny (model prog w) A.in1.in1 (pyNext (.ref z)) (fun r s' => ∃ v acc c, r = some v ∧ s'.heap.get? s.heap.objs.size = some (LsObj acc c) ∧ acc.size = i ∧ J (i + 1) { s' with heap := s'.heap.update s.heap.objs.size (Obj.mapSeq (·.push v)) }) F t)
    (fin : ∀ t, J N t → ∀ (F : Value → Shared → Prop), wpAny (model prog w) A.in1.in1 (pyNext (.ref z)) (fun r s' => r = none ∧ Q (.ref s.heap.objs.size) s') F t) :
    wpAny (model prog w) A (call (.type "list") [.ref z]) Q E s := by
  refine callType_codes (Q₁ := fun obj s₁ => obj = .ref s.heap.objs.size ∧ s₁ = { s with heap := s.heap.push { cls := .type "list", data := .seq #[] } }) PySem.F.called_list (PySem.F.typeCall_list_1 _) PySem.F.entry_list_init
    (code_list_new _ ⟨rfl, rfl⟩) fun obj s₁ h₁ => ?_
  obtain ⟨rfl, rfl⟩ := h₁
  have hS : (s.heap.push { cls := .type "list", data := .seq #[] }).get? s.heap.objs.size = some { cls := .type "list", data := .seq #[] } := Heap.get?_push_size _ rfl
  have hlt : z < s.heap.objs.size := Heap.lt_size hz
  refine ⟨⟨_, hS, rfl⟩, PySem.F.args_list_init_2 _ _, listz_init (A := A.in1) J hn (Nat.ne_of_gt hlt) hS (Heap.get?_push_of_some _ hz) (fun h' c k e => start h' c (fun b o q => k b o (Nat.ne_of_lt (Heap.lt_size q)) (Heap.get?_push_of_some _ q)) e) (fun i t hi hj => turn i t hi hj _) (fun t hj => wpAny_mono (fin t hj _) (fun r s' h => ⟨h.1, rfl, h.2⟩) fun _ _ e => e)⟩
end
/-! ### joined with the frame -/
section
variable {X : Cx} {pins : List (Addr × Obj)} {σ : L2.St} {H : Hp} {o : Wo} {st : Store} {t : Shared} {a b z ti to j1 j2 : Addr} {vs ws : List V} {ds es : List D}
theorem fp_up {b p : Addr} {u : HO} (h : FpOk X pins H b) (ne : b ≠ p) : FpOk X pins (upd H p u) b := ⟨by rw [upd_ne ne]; exact h.1, h.2⟩
/-- the zip at its i-th turn -/
def ZH (S0 z ti to j1 j2 a b : Addr) (i : Nat) (h : Heap) : Prop := IsTupOf2 h ti (.ref j1) (.ref j2) ∧ (∃ u v, IsTupOf2 h to u v) ∧ h.IsTupleIter j1 a i ∧ h.IsListIter j2 b i ∧
  (IsZip h z ti to .none ∨ ∃ T f oT, IsZipHeld h z ti to T f ∧ h.get? T = some oT ∧ T ∉ [S0, z, ti, to, j1, j2])
def ZJ (X : Cx) (pins : List (Addr × Obj)) (σ : L2.St) (o : Wo) (H : Hp) (st : Store) (zs : List D) (S0 z ti to j1 j2 a b : Addr) (i : Nat) (t' : Shared) : Prop :=
  ∃ (o1 : Wo) (H1 : Hp) (acc : Array Value) (c : Nat) (vs1 : List V), Inv X pins σ H1 t' ∧ Wd X.K o1 H1 st ∧ Ext o H o1 H1 ∧ (∀ c ∈ [S0, z, ti, to, j1, j2], FpOk X pins H1 c) ∧ ZH S0 z ti to j1 j2 a b i t'.heap ∧
    t'.heap.get? S0 = some (LsObj acc c) ∧ acc.size = i ∧ Vals vs1 acc.toList ∧ Reps X.K o1 vs1 (zs.take i)
theorem zlist_push {zs : List D} {S0 : Addr} {i : Nat} {t' : Shared} {o1 : Wo} {H1 : Hp} {acc : Array Value} {c : Nat} {vs1 : List V} {x y : V} {y1 y2 : Value} {dx dy : D} {h1 : Heap} {tk : Nat} {f : Bool}
    (I : Inv X pins σ H1 t') (w : Wd X.K o1 H1 st) (xt : Ext o H o1 H1) (fp : ∀ c ∈ [S0, z, ti, to, j1, j2], FpOk X pins H1 c) (hS : t'.heap.get? S0 = some (LsObj acc c)) (hsz : acc.size = i) (rv : Vals vs1 acc.toList) (rr : Reps X.K o1 vs1 (zs.take i))
    (nd : S0 ≠ z ∧ S0 ≠ ti ∧ S0 ≠ to ∧ S0 ≠ j1 ∧ S0 ≠ j2) (hzs : zs[i]? = some (.tup [dx, dy])) (w1 : RelV x y1) (w2 : RelV y y2) (p1 : Rep X.K o1 x dx) (p2 : Rep X.K o1 y dy)
    (k1 : ∀ c o, c ≠ z → c ≠ to → c ≠ j1 → c ≠ j2 → t'.heap.get? c = some o → h1.get? c = some o) (n1 : IsTupOf2 h1 t'.heap.objs.size y1 y2)
    (zz : IsZipHeld h1 z ti to t'.heap.objs.size f ∨ ∃ T oT, IsZipHeld h1 z ti to T f ∧ h1.get? T = some oT ∧ T ∉ [S0, z, ti, to, j1, j2]) (sI : IsTupOf2 h1 ti (.ref j1) (.ref j2)) (sO : ∃ u v, IsTupOf2 h1 to u v) (t1 : h1.IsTupleIter j1 a (i + 1)) (t2 : h1.IsListIter j2 b (i + 1))
    (lts : ∀ c ∈ [S0, z, ti, to, j1, j2], c < t'.heap.objs.size) :
    ∃ v acc c, (some (Value.ref t'.heap.objs.size) : Option Value) = some v ∧ h1.get? S0 = some (LsObj acc c) ∧ acc.size = i ∧ ZJ X pins σ o H st zs S0 z ti to j1 j2 a b (i + 1) { t' with heap := h1.update S0 (Obj.mapSeq (·.push v)), toks := tk } := by
  have hS1 := k1 S0 _ nd.1 nd.2.2.1 nd.2.2.2.1 nd.2.2.2.2 hS
  refine ⟨_, acc, c, rfl, hS1, hsz, ?_⟩
  have pS : t'.heap.objs.size ≠ S0 := Nat.ne_of_gt (lts S0 List.mem_cons_self)
  have up : ∀ c o, c ≠ S0 → h1.get? c = some o → (h1.update S0 (Obj.mapSeq (·.push (.ref t'.heap.objs.size)))).get? c = some o := fun c o ne e => (Heap.get?_update_other _ _ (Ne.symm ne)).trans e
  have n2 := up _ _ pS n1
  have lay : ObjOk X.prog X.w (upd H1 t'.heap.objs.size (.tup [x, y])) (h1.update S0 (Obj.mapSeq (·.push (.ref t'.heap.objs.size)))) t'.heap.objs.size (.tup [x, y]) := ⟨by show 2 ≤ sizeLine; exact Nat.le_trans (by decide) line_1000, [y1, y2], .cons w1 (.cons w2 .nil), ⟨_, n2, rfl, _, rfl⟩⟩
  have hp : H1 t'.heap.objs.size = none := I.hok.fresh (Nat.le_refl _)
  have J : Inv X pins σ (upd H1 t'.heap.objs.size (.tup [x, y])) { t' with heap := h1.update S0 (Obj.mapSeq (·.push (.ref t'.heap.objs.size))), toks := tk } :=
    I.turnedNew (t' := tk) (ch := [S0, z, ti, to, j1, j2]) (fun c o no q => by
      simp only [List.mem_cons, List.not_mem_nil, or_false, not_or] at no
      exact up c o no.1 (k1 c o no.2.1 no.2.2.2.1 no.2.2.2.2.1 no.2.2.2.2.2 q)) fp (Nat.le_refl _) lay
  refine ⟨o1.put t'.heap.objs.size (.tup [x, y]), _, acc.push (.ref t'.heap.objs.size), _, vs1 ++ [.ref t'.heap.objs.size], J, put_wd w hp, Ext.trans w xt (put_ext w hp), fun c cm => fp_up (fp c cm) (Nat.ne_of_lt (lts c cm)), ⟨up _ _ nd.2.1.symm sI, ?_, t1.at fun o q => up _ _ nd.2.2.2.1.symm q, t2.at fun o q => up _ _ nd.2.2.2.2.symm q, .inr ?_⟩, Heap.get?_update_self _ hS1 rfl, by rw [Array.size_push, hsz], ?_, ?_⟩
  · obtain ⟨u, v, q⟩ := sO
    exact ⟨u, v, up _ _ nd.2.2.1.symm q⟩
  · rcases zz with zz | ⟨T, oT, zz, hT, nT⟩
    · refine ⟨_, f, _, up _ _ nd.1.symm zz, n2, fun q => ?_⟩
      exact absurd (lts _ q) (Nat.lt_irrefl _)
    · refine ⟨T, f, oT, up _ _ nd.1.symm zz, up _ _ (fun e => nT (by rw [e]; exact List.mem_cons_self)) hT, nT⟩
  · rw [Array.toList_push]
    exact rv.append (.cons rfl .nil)
  · rw [List.take_add_one, hzs]
    exact (rr.mono (put_sub w hp)).app (.cons (.tup (SqT.of upd_same) (.cons (p1.mono (put_sub w hp)) (.cons (p2.mono (put_sub w hp)) .nil))) .nil)
theorem zlist_ok {Q : VK} (calm : X.calm = true) (I : Inv X pins σ H t) (w : Wd X.K o H st) (f1 : SqT X.K o.F a vs) (f2 : o.F b = some (.lst ws)) (r1 : Reps X.K o vs ds) (r2 : Reps X.K o ws es)
    (S : ZipSep2 z ti to j1 j2 [j1, a] [j2, b]) (zst : ZSt z ti to j1 j2 a b 0 t.heap) (fp : ∀ c ∈ [z, ti, to, j1, j2], FpOk X pins H c)
    (h : ∀ p o' H', Wd X.K o' H' st → Ext o H o' H' → Rep X.K o' (.ref p) (.lst (List.zipWith (fun x y => .tup [x, y]) ds es)) → Q (.ref p) H') :
    wpAny (model X.prog X.w) X.A (call (.type "list") [.ref z]) (EP X pins σ Q) X.xe t := by
  obtain ⟨sz, sI, ⟨u0, v0, sO⟩, t1, t2⟩ := zst
  have lz : z < t.heap.objs.size := Heap.lt_size sz
  have lti : ti < t.heap.objs.size := Heap.lt_size sI
  have lto : to < t.heap.objs.size := Heap.lt_size sO
  have lj1 : j1 < t.heap.objs.size := by obtain ⟨_, g, _⟩ := t1; exact Heap.lt_size g
  have lj2 : j2 < t.heap.objs.size := by obtain ⟨_, g, _⟩ := t2; exact Heap.lt_size g
  obtain ⟨is0, rv0, _, len0⟩ := I.tuple (sqT_up w f1)
  have lenz : (List.zipWith (fun x y => D.tup [x, y]) ds es).length ≤ sizeLine := by
    rw [List.length_zipWith, ← r1.len]
    exact Nat.le_trans (Nat.min_le_left _ _) len0
  generalize hzs : List.zipWith (fun x y => D.tup [x, y]) ds es = zs at *
  have zlen : zs.length = min vs.length ws.length := by rw [← hzs, List.length_zipWith, r1.len, r2.len]
  have nd : t.heap.objs.size ≠ z ∧ t.heap.objs.size ≠ ti ∧ t.heap.objs.size ≠ to ∧ t.heap.objs.size ≠ j1 ∧ t.heap.objs.size ≠ j2 := ⟨Nat.ne_of_gt lz, Nat.ne_of_gt lti, Nat.ne_of_gt lto, Nat.ne_of_gt lj1, Nat.ne_of_gt lj2⟩
  refine listz_call (N := zs.length) (ZJ X pins σ o H st zs t.heap.objs.size z ti to j1 j2 a b) lenz sz ?_ ?_ ?_
  · intro h' c k e
    refine ⟨o, H, #[], c, [], I.kept (t' := t.toks) k, w, .refl o H, fun c cm => ?_, ⟨k _ _ sI, ⟨_, _, k _ _ sO⟩, t1.at fun o q => k _ _ q, t2.at fun o q => k _ _ q, .inl (k _ _ sz)⟩, e, rfl, .nil, .nil⟩
    rcases List.mem_cons.mp cm with rfl | cm
    · exact I.fpOk (Nat.le_refl _) (I.hok.fresh (Nat.le_refl _))
    · exact fp c cm
  · rintro i t' hi ⟨o1, H1, acc, c, vs1, I1, w1, xt, fp1, ⟨sI1, ⟨u1, v1, sO1⟩, ti1, ti2, zz⟩, hS, hsz, rv, rr⟩ F
    have q1 : SqT X.K H1 a vs := sqT_up w1 (sqT_sub xt.sub f1)
    have q2 : SqL X.K H1 b ws := SqL.of (w1.sub _ _ (xt.sub.f _ _ f2))
    obtain ⟨is1, v1', p1, _⟩ := I1.tuple q1
    obtain ⟨is2, v2', p2, _⟩ := I1.list q2
    have p1 : t'.heap.IsTuple a is1.toArray := p1
    have i1 : i < vs.length := by omega
    have i2 : i < ws.length := by omega
    obtain ⟨y1, m1, b1⟩ := v1'.get (List.getElem?_eq_getElem i1)
    obtain ⟨y2, m2, b2⟩ := v2'.get (List.getElem?_eq_getElem i2)
    obtain ⟨dx, e1⟩ : ∃ dx, ds[i]? = some dx := ⟨_, List.getElem?_eq_getElem (by have := r1.len; omega)⟩
    obtain ⟨dy, e2⟩ : ∃ dy, es[i]? = some dy := ⟨_, List.getElem?_eq_getElem (by have := r2.len; omega)⟩
    have ez : zs[i]? = some (.tup [dx, dy]) := by rw [← hzs, List.getElem?_zipWith, e1, e2]
    obtain ⟨x', g1, a1⟩ := r1.get e1
    obtain ⟨y', g2, a2⟩ := r2.get e2
    rw [List.getElem?_eq_getElem i1] at g1
    rw [List.getElem?_eq_getElem i2] at g2
    cases g1
    cases g2
    have lts : ∀ c ∈ [t.heap.objs.size, z, ti, to, j1, j2], c < t'.heap.objs.size := by
      intro c cm
      simp only [List.mem_cons, List.not_mem_nil, or_false] at cm
      rcases cm with rfl | rfl | rfl | rfl | rfl | rfl
      · exact Heap.lt_size hS
      · rcases zz with zz | ⟨T, f, oT, zz, _⟩
        · exact Heap.lt_size zz
        · exact Heap.lt_size zz
      · exact Heap.lt_size sI1
      · exact Heap.lt_size sO1
      · obtain ⟨_, g, _⟩ := ti1; exact Heap.lt_size g
      · obtain ⟨_, g, _⟩ := ti2; exact Heap.lt_size g
    have aj : a ≠ j1 := fun q => by
      obtain ⟨o1, g1, c1, _⟩ := ti1
      obtain ⟨o2, g2, c2, _⟩ := p1
      rw [q, g1] at g2
      cases g2
      exact absurd (c1.symm.trans c2) (by decide)
    have bj : b ≠ j2 := fun q => by
      obtain ⟨o1, g1, c1, _⟩ := ti2
      obtain ⟨o2, g2, c2, _⟩ := p2.isList
      rw [q, g1] at g2
      cases g2
      exact absurd (c1.symm.trans c2) (by decide)
    have l1 : i < is1.toArray.size := by
      have := (List.getElem?_eq_some_iff.mp m1).1
      rw [List.size_toArray]; exact this
    have l2 : i < is2.toArray.size := by
      have := (List.getElem?_eq_some_iff.mp m2).1
      rw [List.size_toArray]; exact this
    rcases zz with zz | ⟨T, f, oT, zz, hT, nT⟩
    · refine wpAny_pyNext_zipD2_item S (Draws.tuple (A := X.A.in1.in1.in1) (I1.ok.hd calm) j1 a aj is1.toArray) (Draws.list (A := X.A.in1.in1.in1) (I1.ok.hd calm) j2 b bj is2.toArray) zz sI1 sO1 ⟨ti1, p1⟩ ⟨ti2, p2.isList⟩ l1 l2 fun x1 x2 h1 tk c1 c2 z1 o1' t3 t4 n1 s1 k1 => ?_
      have c1 : is1.toArray[i]? = some x1 := c1
      have c2 : is2.toArray[i]? = some x2 := c2
      rw [List.getElem?_toArray, m1] at c1
      rw [List.getElem?_toArray, m2] at c2
      cases c1
      cases c2
      exact zlist_push (x := vs[i]) (y := ws[i]) I1 w1 xt fp1 hS hsz rv rr nd ez b1 b2 (a1.mono xt.sub) (a2.mono xt.sub) k1 n1 (.inl z1) (k1 _ _ S.TIz S.TITO S.TIi1 S.TIi2 sI1) ⟨_, _, o1'⟩ t3.1 t4.1 lts
    · refine next_zip_held S (Draws.tuple (A := X.A.in1.in1.in1) (I1.ok.hd calm) j1 a aj is1.toArray) (Draws.list (A := X.A.in1.in1.in1) (I1.ok.hd calm) j2 b bj is2.toArray) zz hT sI1 ⟨ti1, p1⟩ ⟨ti2, p2.isList⟩ l1 l2 fun x1 x2 h1 tk c1 c2 z1 t3 t4 n1 s1 k1 => ?_
      have c1 : is1.toArray[i]? = some x1 := c1
      have c2 : is2.toArray[i]? = some x2 := c2
      rw [List.getElem?_toArray, m1] at c1
      rw [List.getElem?_toArray, m2] at c2
      cases c1
      cases c2
      have nT' := nT
      simp only [List.mem_cons, List.not_mem_nil, or_false, not_or] at nT'
      exact zlist_push (x := vs[i]) (y := ws[i]) (f := true) I1 w1 xt fp1 hS hsz rv rr nd ez b1 b2 (a1.mono xt.sub) (a2.mono xt.sub) (fun c o c1 _ c3 c4 => k1 c o c1 c3 c4) n1 (.inr ⟨T, oT, z1, k1 _ _ nT'.2.1 nT'.2.2.2.2.1 nT'.2.2.2.2.2 hT, nT⟩) (k1 _ _ S.TIz S.TIi1 S.TIi2 sI1) ⟨_, _, k1 _ _ S.TOz S.Ti1 S.Ti2 sO1⟩ t3.1 t4.1 lts
  · rintro t' ⟨o1, H1, acc, c, vs1, I1, w1, xt, fp1, ⟨sI1, ⟨u1, v1, sO1⟩, ti1, ti2, zz⟩, hS, hsz, rv, rr⟩ F
    have q1 : SqT X.K H1 a vs := sqT_up w1 (sqT_sub xt.sub f1)
    have q2 : SqL X.K H1 b ws := SqL.of (w1.sub _ _ (xt.sub.f _ _ f2))
    obtain ⟨is1, v1', p1, _⟩ := I1.tuple q1
    obtain ⟨is2, v2', p2, _⟩ := I1.list q2
    have p1 : t'.heap.IsTuple a is1.toArray := p1
    have n1 := v1'.length
    have n2 := v2'.length
    have aj : a ≠ j1 := fun q => by
      obtain ⟨o1, g1, c1, _⟩ := ti1
      obtain ⟨o2, g2, c2, _⟩ := p1
      rw [q, g1] at g2
      cases g2
      exact absurd (c1.symm.trans c2) (by decide)
    have bj : b ≠ j2 := fun q => by
      obtain ⟨o1, g1, c1, _⟩ := ti2
      obtain ⟨o2, g2, c2, _⟩ := p2.isList
      rw [q, g1] at g2
      cases g2
      exact absurd (c1.symm.trans c2) (by decide)
    rw [List.take_length] at rr
    have hfin : ∀ (h1 : Heap) (tk : Nat), (∀ c o, c ≠ z → c ≠ to → c ≠ j1 → c ≠ j2 → t'.heap.get? c = some o → h1.get? c = some o) → EP X pins σ Q (.ref t.heap.objs.size) { t' with heap := h1, toks := tk } := fun h1 tk k1 => by
      have J : Inv X pins σ H1 { t' with heap := h1, toks := tk } := I1.turnedL (t' := tk) (ch := [z, ti, to, j1, j2]) (fun c o no q => by
        simp only [List.mem_cons, List.not_mem_nil, or_false, not_or] at no
        exact k1 c o no.1 no.2.2.1 no.2.2.2.1 no.2.2.2.2 q) fun c cm => fp1 c (List.mem_cons_of_mem _ cm)
      have hS1 := k1 _ _ nd.1 nd.2.2.1 nd.2.2.2.1 nd.2.2.2.2 hS
      have fS := fp1 _ List.mem_cons_self
      have lv : vs1.length ≤ sizeLine := by rw [rr.len]; exact lenz
      have J2 := J.take (h' := h1) (t' := tk) (it := t.heap.objs.size) (o := .lst vs1) (fun b ob _ q => q) fS ⟨lv, acc.toList, c, rv, by rw [hS1]⟩
      refine ⟨.ref t.heap.objs.size, _, J2, rfl, h _ (o1.put t.heap.objs.size (.lst vs1)) _ (put_wd w1 fS.1) (Ext.trans w1 xt (put_ext w1 fS.1)) (.lst upd_same (rr.mono (put_sub w1 fS.1)))⟩
    have e1 : is1.toArray.size = vs.length := by rw [List.size_toArray, n1]
    have e2 : is2.toArray.size = ws.length := by rw [List.size_toArray, n2]
    rcases zz with zz | ⟨T, f, oT, zz, hT, nT⟩
    · exact wpAny_pyNext_zipD2_end S (Draws.tuple (A := X.A.in1.in1.in1) (I1.ok.hd calm) j1 a aj is1.toArray) (Draws.list (A := X.A.in1.in1.in1) (I1.ok.hd calm) j2 b bj is2.toArray) zz sI1 sO1 ⟨ti1, p1⟩ ⟨ti2, p2.isList⟩ (by omega) (by omega) (by omega) fun h1 tk k1 => ⟨rfl, hfin h1 tk k1⟩
    · exact end_zip_held S (Draws.tuple (A := X.A.in1.in1.in1) (I1.ok.hd calm) j1 a aj is1.toArray) (Draws.list (A := X.A.in1.in1.in1) (I1.ok.hd calm) j2 b bj is2.toArray) zz hT sI1 ⟨ti1, p1⟩ ⟨ti2, p2.isList⟩ (by omega) (by omega) (by omega) fun h1 tk k1 => ⟨rfl, hfin h1 tk fun c o c1 _ c3 c4 => k1 c o c1 c3 c4⟩
end
def eLz (a : SA) : SE := fun C r st => (a C r st).bind fun ds st => (lift (dZip ds) st).bind fun zs st => .ok (.lst zs) st
section
variable {X : Cx} {C : FEnv}
theorem h_listz {e e2 : Expr} {ss : SA} {p p2 pos pos2 : Pos} (calm : X.calm = true) (hgl : Gl X "list") (hml : X.mg "list" = none) (hg : Gl X "zip") (hm : X.mg "zip" = none) (ha : HA X C [e, e2] ss)
    (s1 : starEach [e, e2] X.env = (false, eval e X.env) :: starEach [e2] X.env) (s2 : (backTo pos2 (starEach [e2] X.env)).any (·.1) = false)
    (s3 : starEach [Expr.Call (.Name "zip" p2) [e, e2] [] pos2] X.env = (false, eval (Expr.Call (.Name "zip" p2) [e, e2] [] pos2) X.env) :: starEach [] X.env) (s4 : (backTo pos (starEach [] X.env)).any (·.1) = false) :
    HE X C (.Call (.Name "list" p) [.Call (.Name "zip" p2) [e, e2] [] pos2] [] pos) (eLz ss) := by
  refine ⟨fun pins s σ H Q I ⟨o, r, st, w, l, h⟩ => ?_⟩
  have h : OutD X.K (wx X) o H ((ss C r st).bind fun ds st => (lift (dZip ds) st).bind fun zs st => .ok (.lst zs) st) Q := h
  refine Call_ (ld_blt I hgl hml PyProof.Rows.boot_list (PyProof.Rows.callWith_type1 ?_ s3 s4))
  rw [s3]
  show wpAny _ _ (spliced ((false, eval (Expr.Call (.Name "zip" p2) [e, e2] [] pos2) X.env) :: backTo pos (starEach [] X.env))) _ _ s
  refine Calls.spliced_cons (Call_ (ld_blt I hg hm PyProof.Rows.boot_zip (PyProof.Rows.callWith_type1 (thn (ha.run pos2 pins s σ H (fun vs H1 => ∃ (a b : Addr) (vx wx' : List V) (dx dy : List D) (o1 : Wo) (st1 : Store), vs = [.ref a, .ref b] ∧ Wd X.K o1 H1 st1 ∧ Ext o H o1 H1 ∧ SqT X.K o1.F a vx ∧ o1.F b = some (.lst wx') ∧ Reps X.K o1 vx dx ∧ Reps X.K o1 wx' dy ∧ OutD X.K (wx X) o H (.ok (.lst (List.zipWith (fun x y => .tup [x, y]) dx dy)) st1) Q) I ⟨o, r, st, w, l, h.b fun ds st1 e1 h vs o1 H1 w1 x1 q1 => ?_⟩) fun us t ⟨vs, H1, J, rv, a, b, vx, wx', dx, dy, o1, st1, ev, w1, x1, f1, f2, r1, r2, h⟩ => ?_) s1 s2)))
  · cases ez : dZip ds with
    | none => rw [ez] at h; exact h.elim
    | some zs =>
      rw [ez] at h
      unfold dZip at ez
      split at ez
      · cases ez
        cases q1 with
        | cons a1 q1 =>
          cases q1 with
          | cons b1 q1 =>
            cases q1
            cases a1 with
            | tup f1 g1 =>
              cases b1 with
              | lst f2 g2 => exact ⟨_, _, _, _, _, _, o1, st1, rfl, w1, x1, f1, f2, g1, g2, h⟩
      · cases ez
  · subst ev
    cases rv with
    | cons ra rv =>
      cases rv with
      | cons rb rv =>
        cases rv
        cases ra
        cases rb
        obtain ⟨is1, rr1, p1, _⟩ := J.tuple (sqT_up w1 f1)
        obtain ⟨is2, rr2, p2', _⟩ := J.list (SqL.of (w1.sub _ _ f2))
        have p1 : t.heap.IsTuple a is1.toArray := p1
        have la : a < t.heap.objs.size := by obtain ⟨_, g, _⟩ := p1; exact Heap.lt_size g
        have lb : b < t.heap.objs.size := p2'.lt
        refine zip_begins2 (begins_tuple a is1.toArray) (begins_list b is2.toArray) p1 p2'.isList fun h1 z1 t1 o1' g1 g2 sz k1 => Calls.spliced_nil ?_
        have J2 : Inv X pins σ H1 { t with heap := h1 } := J.kept (t' := t.toks) k1
        have S := zip_sep t.heap.objs.size a b la lb
        refine zlist_ok calm J2 w1 f1 f2 r1 r2 S ⟨z1, t1, ⟨_, _, o1'⟩, ⟨_, g1, rfl, rfl⟩, ⟨_, g2, rfl, rfl⟩⟩ (fun c cm => ?_) fun q o' H' w' x' r' => h _ o' H' w' (Ext.trans w1 x1 x') r'
        have ge : t.heap.objs.size ≤ c := by
          simp only [List.mem_cons, List.not_mem_nil, or_false] at cm
          rcases cm with rfl | rfl | rfl | rfl | rfl
          · exact Nat.le_add_right _ 4
          · exact Nat.le_add_right _ 2
          · exact Nat.le_add_right _ 3
          · exact Nat.le_refl _
          · exact Nat.le_add_right _ 1
        exact J.fpOk ge (J.hok.fresh ge)
end
end DS
namespace DS
open PySem L2 PyProof.Rows
noncomputable section
/-! ## from the text to its meaning -/
abbrev Shape := Str × Nat × List Str × List Src
/-- what the text says of its classes: attributes by name and class; methods; how a class is made; the module's constants; which classes stand above which; calls of methods -/
structure CT where
  attrs : List (Str × Str × AK) := []
  meths : List (Str × Str × Str) := []
  mks : List (Str × Str) := []
  cons : List (Str × D) := []
  anc : List (Str × List Str) := []
  msh : List Shape := []
  mk0 : List Str := []
  cfs : List (Str × Str × Str) := []
  cms : List (Str × Str × Str) := []
  ccs : List (Str × Str × D) := []
  xcs : List (Str × Str) := []
  star : List Str := []
  dcs : List (Str × List (Str × D)) := []
structure CC where
  N : List Str
  sc : Scope
  fnc : Str → Bool
  shapes : List Shape
  own : List Str
  cel : Bool
  ct : CT := {}
  ops : Bool := false
def isP1 : List Src → Bool
  | [.pos 0] => true
  | _ => false
def isP2 : List Src → Bool
  | [.pos 0, .pos 1] => true
  | _ => false
/-- methods of texts, of one argument -/
def tm1Of (m : Str) : Option (D → D → Option D) := if m = "split" then some dSplit else if m = "join" then some dJoin else if m = "startswith" then some dStarts else none
/-- methods of lists, of one argument -/
def tl1Of (m : Str) : Option (D → D → Option D) := if m = "index" then some dIndex else none
def findShape : List Shape → Str → Nat → List Str → Option (List Src)
  | [], _, _, _ => none
  | (f, n, ks, src) :: r, g, k, ls => if f = g ∧ n = k ∧ ks = ls then some src else findShape r g k ls
/-- own methods m of n values -/
def opTab (msh : List Shape) (l : List (Str × Str × Str)) (m : Str) (n : Nat) (ok : List Src → Bool) : List (Str × Str) := l.filterMap fun x => if x.1 = m then match findShape msh x.2.2 n [] with
  | some src => if ok src then some (x.2.1, x.2.2) else none
  | none => none else none
def mkBin (cc : CC) (op : Operator) (g : D → D → Option D) (x y : SE) : SE := match cc.ops, op with
  | true, .Mult => eBinC (oMul (opTab cc.ct.msh cc.ct.meths "__mul__" 2 isP2) (if cc.ct.star.isEmpty then g else dMulT)) x y
  | true, .Add => (match opTab cc.ct.msh cc.ct.meths "__add__" 2 isP2 with
    | [] => eBin g x y
    | t :: ts => eBinC (oAdd (t :: ts) g) x y)
  | _, _ => eBin g x y
def mkCmp (cc : CC) (op : CmpOp) (g : D → D → Option D) (x y : SE) : SE := match cc.ops, op with
  | true, .Eq => eBinC (oEq false cc.ct.anc (opTab cc.ct.msh cc.ct.meths "__eq__" 2 isP2) g) x y
  | true, .NotEq => eBinC (oEq true cc.ct.anc (opTab cc.ct.msh cc.ct.meths "__eq__" 2 isP2) g) x y
  | true, .In => eBinC (oIn false cc.ct.anc (opTab cc.ct.msh cc.ct.meths "__eq__" 2 isP2) (opTab cc.ct.msh cc.ct.meths "__contains__" 2 isP2) g) x y
  | true, .NotIn => eBinC (oIn true cc.ct.anc (opTab cc.ct.msh cc.ct.meths "__eq__" 2 isP2) (opTab cc.ct.msh cc.ct.meths "__contains__" 2 isP2) g) x y
  | _, _ => eBin g x y
def mkBlt (cc : CC) (f : Str) (g : List D → Option D) (as : SA) : SE := match cc.ops with
  | true => if f = "str" then eBltC (oText (opTab cc.ct.msh cc.ct.meths "__str__" 1 isP1) g) as else if f = "repr" then eBltC (oText (opTab cc.ct.msh cc.ct.meths "__repr__" 1 isP1) g) as else if f = "len" then (match opTab cc.ct.msh cc.ct.meths "__len__" 1 isP1 with
    | [] => eBlt g as
    | t :: ts => eBltC (oLen (t :: ts) g) as) else if f = "bool" then eBltC (oBool (opTab cc.ct.msh cc.ct.meths "__len__" 1 isP1) g) as else eBlt g as
  | false => eBlt g as
def mkIx (cc : CC) (x y : SE) : SE := match cc.ops, opTab cc.ct.msh cc.ct.meths "__getitem__" 2 isP2 with
  | true, t :: ts => eBinC (oIx (t :: ts) dIx) x y
  | _, _ => eIxx dIx x y
def posOf : List Str → Str → Nat → Option Nat
  | [], _, _ => none
  | y :: ys, x, i => if y = x then some i else posOf ys x (i + 1)
def visB (sc : Scope) (x : Str) : Bool := match sc.names.lookup x with
  | some .local => true
  | some .cell => true
  | some .free => true
  | _ => false
def glB (sc : Scope) (x : Str) : Bool := match sc.names.lookup x with
  | some .globalImplicit => true
  | _ => false
def okName (x : Str) : Bool := !(x == ("__debug__" : Str)) && !(x == ("__classdict__" : Str)) && !(x == ("__name__" : Str))
def varOf (cc : CC) (x : Str) : Option Nat := if okName x && visB cc.sc x then posOf cc.N x 0 else none
def tyBy (x : Str) : Option String :=
  if x = "int" then some "int" else if x = "bool" then some "bool" else if x = "tuple" then some "tuple" else if x = "str" then some "str" else if x = "list" then some "list" else none
def opOf : Operator → Option (D → D → Option D)
  | .Add => some dAdd
  | .Sub => some dSub
  | .Mult => some dMul
  | .FloorDiv => some dFdiv
  | .Mod => some dMod
  | .Pow => some dPow
  | _ => none
def cmpOf : CmpOp → Option (D → D → Option D)
  | .Eq => some dEq
  | .NotEq => some dNe
  | .Lt => some dLt
  | .LtE => some dLe
  | .Gt => some dGt
  | .GtE => some dGe
  | .Is => some dIs
  | .IsNot => some dIsNot
  | .In => some dIn
  | .NotIn => some dNotIn
def bltOf1 (anc : List (Str × List Str)) (x : Str) : Option (List D → Option D) :=
  if x = "abs" then some dAbs else if x = "max" then some dMax else if x = "min" then some dMin else if x = "len" then some dLen else if x = "divmod" then some dDivmod else
  if x = "isinstance" then some (dIsO anc) else if x = "all" then some dAll else if x = "any" then some dAny else if x = "repr" then some dRepr else if x = "str" then some dStr else if x = "int" then some dInt else none
def bltOf2 (x : Str) : Option (List D → Option D) := if x = "list" then some dList else if x = "tuple" then some dTuple else if x = "bool" then some dBool else none
def bltOf (anc : List (Str × List Str)) (x : Str) : Option (List D → Option D) := match bltOf1 anc x with
  | some g => some g
  | none => bltOf2 x
theorem bltOf_or {anc : List (Str × List Str)} {x : Str} {g : List D → Option D} (h : bltOf anc x = some g) : bltOf1 anc x = some g ∨ bltOf2 x = some g := by
  unfold bltOf at h
  split at h
  · cases h; exact .inl (by assumption)
  · exact .inr h
def notStar : Expr → Bool
  | .Starred _ _ => false
  | _ => true
def notSlice : Expr → Bool
  | .Slice _ _ _ _ => false
  | _ => true
def notSet : Expr → Bool
  | .Set _ _ _ => false
  | _ => true
def notComp : Expr → Bool
  | .ListComp _ _ _ _ => false
  | .SetComp _ _ _ _ => false
  | .DictComp _ _ _ _ _ => false
  | _ => true
def notTuple : Expr → Bool
  | .Tuple _ _ _ => false
  | _ => true
/-- a test that is a plain value's truth -/
def plainT : Expr → Bool
  | .UnaryOp .Not _ _ => false
  | .BoolOp _ _ _ => false
  | .IfExp _ _ _ _ => false
  | .Compare _ _ _ _ => false
  | _ => true
def argsBy (f : Expr → Option SE) : List Expr → Option SA
  | [] => some aNil
  | e :: es => if notStar e then match f e, argsBy f es with
    | some a, some b => some (aCons a b)
    | _, _ => none else none
def kwBy (f : Expr → Option SE) : List Keyword → Option (List Str × SA)
  | [] => some ([], aNil)
  | ⟨some n, e, _⟩ :: r => match f e, kwBy f r with
    | some a, some (ns, b) => some (n :: ns, aCons a b)
    | _, _ => none
  | ⟨none, _, _⟩ :: _ => none
def andBy (f : Expr → Option SE) (g : SE → SE → SE) : List Expr → Option SE
  | [] => none
  | [e] => f e
  | e :: e' :: es => match f e, andBy f g (e' :: es) with
    | some a, some b => some (g a b)
    | _, _ => none
def andTBy (f : Expr → Option ST) (g : ST → ST → ST) : List Expr → Option ST
  | [] => none
  | [e] => f e
  | e :: e' :: es => match f e, andTBy f g (e' :: es) with
    | some a, some b => some (g a b)
    | _, _ => none
mutual
def tgBy (cc : CC) : Nat → Expr → Option Tg
  | 0, _ => none
  | n + 1, .Name x _ => if okName x then match cc.sc.names.lookup x with
    | some .local => (posOf cc.N x 0).map .nm
    | some .cell => if cc.fnc x then (posOf cc.N x 0).map .nm else none
    | _ => none else none
  | n + 1, .Tuple es _ _ => (tgsBy cc n es).map .tp
  | _, _ => none
def tgsBy (cc : CC) : Nat → List Expr → Option (List Tg)
  | 0, _ => none
  | _ + 1, [] => some []
  | n + 1, e :: es => match tgBy cc n e, tgsBy cc n es with
    | some a, some b => some (a :: b)
    | _, _ => none
end
def ownOf (N : List Str) : List (Str × NameKind) → List (Str × Nat)
  | [] => []
  | (x, .local) :: r => match posOf N x 0 with
    | some i => (x, i) :: ownOf N r
    | none => ownOf N r
  | (x, .cell) :: r => match posOf N x 0 with
    | some i => (x, i) :: ownOf N r
    | none => ownOf N r
  | _ :: r => ownOf N r
def ifsBy (f : Expr → Option ST) : List Expr → Option ST
  | [] => some tYs
  | [c] => f c
  | _ => none
def partBy (f : Expr → Option SE) : Option Expr → Option SO
  | none => some oNone
  | some e => (f e).map oSome
def CC.blk (cc : CC) (scope : Scope) : CC := { cc with sc := relS scope cc.sc, fnc := fun x => scope.names.lookup x == some .cell }
def inB (xs ys : List Nat) : Bool := xs.all fun i => ys.contains i
def iterBy (cc : CC) (f : Expr → Option SE) : Expr → Option SA
  | .Call (.Name x p) es [] pos => if x = "range" ∧ glB cc.sc x = true then match es with
      | [a] => (argsBy f [a]).map eRng
      | [a, b] => (argsBy f [a, b]).map eRng
      | _ => none
    else (f (.Call (.Name x p) es [] pos)).map eIter
  | e => if notSet e then (f e).map eIter else none
/-- .. or zip(a, b), by pairs -/
def zipBy (cc : CC) (f : Expr → Option SE) : Expr → Expr → Option SA
  | .Tuple _ _ _, .Call (.Name x _) [a, b] [] _ => if x = "zip" ∧ glB cc.sc x = true then (argsBy f [a, b]).map eZip else none
  | _, _ => none
def iterT (cc : CC) (f : Expr → Option SE) (tg e : Expr) : Option SA := match zipBy cc f tg e with
  | some s => some s
  | none => iterBy cc f e
def stepE (fE : CC → Expr → Option SE) (fT : CC → Expr → Option ST) : CC → Expr → Option SE
  | _, .Constant (.int i) _ _ => some (eC (.int i))
  | _, .Constant (.bool b) _ _ => some (eC (.bl b))
  | _, .Constant .none _ _ => some (eC .non)
  | _, .Constant (.str x) _ _ => some (eC (.str x))
  | cc, .Name x _ => match varOf cc x with
    | some i => some (eVar i)
    | none => if okName x && glB cc.sc x then (tyBy x).map fun t => eC (.ty t) else none
  | cc, .BinOp a op b _ => match opOf op, fE cc a, fE cc b with
    | some g, some x, some y => some (mkBin cc op g x y)
    | _, _, _ => none
  | cc, .UnaryOp .USub a _ => (fE cc a).map (eUn dNeg)
  | cc, .UnaryOp .Not a _ => (fE cc a).map eNt
  | cc, .BoolOp .And es _ => andBy (fE cc) eAn es
  | cc, .BoolOp .Or es _ => andBy (fE cc) eOr es
  | cc, .Compare a [op] [b] _ => if notSet b then match cmpOf op, fE cc a, fE cc b with
    | some g, some x, some y => some (mkCmp cc op g x y)
    | _, _, _ => none else none
  | cc, .Compare a [op, op'] [b, c] _ => if notSet c then match cmpOf op, cmpOf op', fE cc a, fE cc b, fE cc c with
    | some g, some h, some x, some y, some z => some (eChn g h x y z)
    | _, _, _, _, _ => none else none
  | cc, .IfExp c a b _ => match fT cc c, fE cc a, fE cc b with
    | some t, some x, some y => some (eIf t x y)
    | _, _, _ => none
  | cc, .Tuple es _ _ => if es.length ≤ 1000 then (argsBy (fE cc) es).map eTup else none
  | cc, .List es _ => if es.length ≤ 1000 then (argsBy (fE cc) es).map eLst else none
  | cc, .Call (.Name f _) es kws _ => if okName f && glB cc.sc f then match argsBy (fE cc) es, kwBy (fE cc) kws with
    | some as, some (ks, kw) => match findShape cc.shapes f es.length ks with
      | some src => some (eCallK f src as kw)
      | none => match bltOf cc.ct.anc f, es, kws with
        | some g, _ :: _, [] => some (mkBlt cc f g as)
        | _, _, _ => none
    | _, _ => none else none
  | cc, .Subscript a (.Slice lo hi none _) _ => match fE cc a, partBy (fE cc) lo, partBy (fE cc) hi with
    | some x, some l, some h => some (eSll dSl x l h)
    | _, _, _ => none
  | cc, .Subscript a b _ => if notSlice b then match fE cc a, fE cc b with
    | some x, some y => some (mkIx cc x y)
    | _, _ => none else none
  | cc, .ListComp elt [⟨tg, iter, ifs, 0⟩] scope _ =>
    let own := ownOf cc.N scope.names
    let cb := cc.blk scope
    if blkC cc.N cc.sc scope own then match iterT cc (fE cc) tg iter, tgBy cb 8 tg, ifsBy (fT cb) ifs, fE cb elt with
      | some it, some g, some t, some e => if inB (slotsT g) (own.map (·.2)) then some (eComp (own.map (·.2)) it g t e) else none
      | _, _, _, _ => none else none
  | _, _ => none
def stepT (fE : CC → Expr → Option SE) (fT : CC → Expr → Option ST) : CC → Expr → Option ST
  | cc, .UnaryOp .Not a _ => (fT cc a).map tNt
  | cc, .BoolOp .And es _ => andTBy (fT cc) tAn es
  | cc, .BoolOp .Or es _ => andTBy (fT cc) tOr' es
  | cc, .Compare a [op] [b] _ => if notSet b then match cmpOf op, fE cc a, fE cc b with
    | some g, some x, some y => some (tE (mkCmp cc op g x y))
    | _, _, _ => none else none
  | cc, .Compare a [op, op'] [b, c] _ => if notSet c then match cmpOf op, cmpOf op', fE cc a, fE cc b, fE cc c with
    | some g, some h, some x, some y, some z => some (tE (eChn g h x y z))
    | _, _, _, _, _ => none else none
  | cc, .IfExp c a b _ => match fT cc c, fT cc a, fT cc b with
    | some x, some y, some z => some (tIf' x y z)
    | _, _, _ => none
  | cc, e => if plainT e then (fE cc e).map tE else none
/-- not super().f -/
def plainBase : Expr → Bool
  | .Call (.Name x _) [] [] _ => !(x == ("super" : Str))
  | _ => true
def attrTab (l : List (Str × Str × AK)) (f : Str) : List (Str × AK) := l.filterMap fun x => if x.1 = f then some (x.2.1, x.2.2) else none
def methTab (msh : List Shape) (n : Nat) (ks : List Str) (l : List (Str × Str × Str)) (m : Str) : List (Str × Str × List Src) := l.filterMap fun x => if x.1 = m then match findShape msh x.2.2 n ks with
  | some src => some (x.2.1, x.2.2, src)
  | none => none else none
def mkTab (msh : List Shape) (n : Nat) (ks : List Str) (l : List (Str × Str)) : List (Str × Str × List Src) := l.filterMap fun x => match findShape msh x.2 n ks with
  | some src => some (x.1, x.2, src)
  | none => none
def look3 {α : Type} : List (Str × Str × α) → Str → Str → Option α
  | [], _, _ => none
  | (a, b, y) :: r, c, m => if a = c ∧ b = m then some y else look3 r c m
def listBy (f : Expr → Option SE) : List Expr → Option (List SE)
  | [] => some []
  | e :: es => match f e, listBy f es with
    | some a, some b => some (a :: b)
    | _, _ => none
/-- further forms -/
def stepN (fE : CC → Expr → Option SE) (fT : CC → Expr → Option ST) : CC → Expr → Option SE
  | _, .Dict [] [] _ => some (eC .emp)
  | cc, .Subscript a (.Slice none none (some b) _) _ => match fE cc a, fE cc b with
    | some x, some y => some (eBin dBack x y)
    | _, _ => none
  | cc, .Name x _ => if okName x && glB cc.sc x then match cc.ct.cons.lookup x with
    | some d => some (eC d)
    | none => match cc.ct.anc.lookup x with
      | some _ => some (eC (.cls x))
      | none => none else none
  | cc, .Attribute a f _ => if plainBase a then (fE cc a).map (eAttr f (attrTab cc.ct.attrs f)) else none
  | cc, .JoinedStr [a] _ => fE cc a
  | cc, .JoinedStr (a :: b :: r) _ => (listBy (fE cc) (a :: b :: r)).map eJs
  | cc, .FormattedValue a (-1) none _ => (fE cc a).map (eUn dFmt)
  | cc, .Call (.Attribute a m apos) es kws pos => if plainBase a && (apos.endLine == pos.line) && decide (es.length + kws.length < 28) then match tm1Of m, es, kws with
   | some g, [e], [] => if notStar e then match fE cc a, fE cc e with
      | some x, some y => some (eBinS g x y)
      | _, _ => none else none
   | _, _, _ => match fE cc a, argsBy (fE cc) es, kwBy (fE cc) kws with
    | some x, some as, some (ks, kw) => some (eMeth m (methTab cc.ct.msh (es.length + 1) ks cc.ct.meths m) x as kw)
    | _, _, _ => none else none
  | cc, .Call (.Name c _) es kws _ => if okName c && glB cc.sc c then match cc.ct.mks.lookup c, argsBy (fE cc) es, kwBy (fE cc) kws with
    | some f, some as, some (ks, kw) => match findShape cc.ct.msh f (es.length + 1) ks with
      | some src => some (eMake c f src as kw)
      | none => none
    | _, _, _ => none else none
  | _, _ => none
/-- classes: their constants, functions, classmethods; bare ones; one that a name holds -/
def stepC (fE : CC → Expr → Option SE) : CC → Expr → Option SE
  | cc, .Attribute (.Name c _) f _ => if okName c && glB cc.sc c then (look3 cc.ct.ccs c f).map eC else none
  | cc, .Call (.Attribute (.Name c _) m apos) es kws pos => if okName c && glB cc.sc c && (apos.endLine == pos.line) && decide (es.length + kws.length < 28) then match argsBy (fE cc) es, kwBy (fE cc) kws with
    | some as, some (ks, kw) => (match look3 cc.ct.cfs c m with
      | some f => (findShape cc.ct.msh f es.length ks).map fun src => eCallK f src as kw
      | none => (match look3 cc.ct.cms c m, es, kws with
        | some f, _ :: _, [] => (findShape cc.ct.msh f (es.length + 1) []).map fun src => eCallK f src (aCons (eC (.cls c)) as) aNil
        | _, _, _ => none))
    | _, _ => none else none
  | cc, .Call (.Name c _) es kws _ => match varOf cc c with
    | some i => (match argsBy (fE cc) es, kwBy (fE cc) kws with
      | some as, some (ks, kw) => some (eMakeV (eVar i) (mkTab cc.ct.msh (es.length + 1) ks cc.ct.mks) as kw)
      | _, _ => none)
    | none => if okName c && glB cc.sc c && cc.ct.mk0.contains c then (match es, kws with
      | [], [] => some (eMake0 c)
      | _, _ => none) else none
  | _, _ => none
/-- not super().f -/
def plainBaseM : Expr → Bool
  | .Call (.Name x _) [] [] _ => !(x == ("super" : Str))
  | _ => true
/-- arguments, some starred -/
def starsBy (f : Expr → Option SE) : List Expr → Option SA
  | [] => some aNil
  | .Starred e _ :: es => (match f e, starsBy f es with
    | some a, some b => some (aStar a b)
    | _, _ => none)
  | _ => none
/-- methods of lists; C(*a, ..) -/
def stepM (fE : CC → Expr → Option SE) : CC → Expr → Option SE
  | cc, .Call (.Name c _) (.Starred e _ :: es) [] _ => if okName c && glB cc.sc c then (match cc.ct.mks.lookup c, fE cc e, starsBy (fE cc) es with
    | some f, some a, some b => if cc.ct.star.contains f then some (eMakeS c f (aStar a b)) else none
    | _, _, _ => none) else none
  | cc, .Call (.Attribute a m apos) [e] [] pos => match tl1Of m with
    | some g => if plainBaseM a && (apos.endLine == pos.line) && notStar e then match fE cc a, fE cc e with
      | some x, some y => some (eBinL g x y)
      | _, _ => none else none
    | none => none
  | _, _ => none
/-- a constant dict -/
def stepD (fE : CC → Expr → Option SE) : CC → Expr → Option SE
  | cc, .Subscript (.Name x _) (.Slice lo hi none _) _ => if cc.own.contains x then (match varOf cc x, partBy (fE cc) lo, partBy (fE cc) hi with
    | some i, some l, some h => some (eSlO i l h)
    | _, _, _ => none) else none
  | cc, .Subscript (.Name c _) b _ => if okName c && glB cc.sc c && notSlice b then (match cc.ct.dcs.lookup c, fE cc b with
    | some kvs, some s => some (eUn (dKey kvs) s)
    | _, _ => none) else none
  | _, _ => none
/-- a display's items, some starred -/
def dispBy (f : Expr → Option SE) : List Expr → Option SA
  | [] => some aNil
  | .Starred e _ :: es => (match f e, dispBy f es with
    | some a, some b => some (aStar a b)
    | _, _ => none)
  | e :: es => if notStar e then (match f e, dispBy f es with
    | some a, some b => some (aCons a b)
    | _, _ => none) else none
def hasStar : List Expr → Bool
  | [] => false
  | e :: es => !notStar e || hasStar es
/-- classes that a name may hold and that are made of any number of values -/
def starTab (mks : List (Str × Str)) (star : List Str) : List (Str × Str) := mks.filter fun x => star.contains x.2
def hasBy (cc : CC) (fE : CC → Expr → Option SE) (neg : Bool) (a : Expr) (c : Str) : Option SE := if okName c && glB cc.sc c then (match cc.ct.dcs.lookup c, fE cc a with
  | some kvs, some s => some (eUn (dHas kvs neg) s)
  | _, _ => none) else none
/-- a key in a constant dict; classmethods by keywords; v(*a), v a class; displays with stars -/
def stepQ (fE : CC → Expr → Option SE) : CC → Expr → Option SE
  | cc, .Compare a [.In] [.Name c _] _ => hasBy cc fE false a c
  | cc, .Compare a [.NotIn] [.Name c _] _ => hasBy cc fE true a c
  | cc, .Call (.Name x _) [.Starred e _] [] _ => match varOf cc x with
    | some i => (fE cc e).map fun s => eMakeVS (eVar i) (starTab cc.ct.mks cc.ct.star) s
    | none => none
  | cc, .Call (.Attribute (.Name c _) m apos) [] (kw :: kws) pos => if okName c && glB cc.sc c && (apos.endLine == pos.line) && decide (kws.length < 20) then match look3 cc.ct.cms c m, kwBy (fE cc) (kw :: kws) with
    | some f, some (ks, s) => (findShape cc.ct.msh f 1 ks).map fun src => eCallK f src (aCons (eC (.cls c)) aNil) s
    | _, _ => none else none
  | cc, .Tuple es _ _ => if hasStar es then (dispBy (fE cc) es).map eTupS else none
  | cc, .List es _ => if hasStar es then (dispBy (fE cc) es).map eLstS else none
  | cc, .Call (.Name x _) [.Call (.Name y _) [a, b] [] _] [] _ => if x = "list" ∧ y = "zip" ∧ glB cc.sc x = true ∧ glB cc.sc y = true then (argsBy (fE cc) [a, b]).map eLz else none
  | _, _ => none
/-- .. as tests -/
def stepTQ (fE : CC → Expr → Option SE) : CC → Expr → Option ST
  | cc, .Compare a [.In] [.Name c _] _ => (hasBy cc fE false a c).map tE
  | cc, .Compare a [.NotIn] [.Name c _] _ => (hasBy cc fE true a c).map tE
  | _, _ => none
def orT (a b : Option ST) : Option ST := match a with
  | some s => some s
  | none => b
def orE (a b : Option SE) : Option SE := match a with
  | some s => some s
  | none => b
mutual
def compE : Nat → CC → Expr → Option SE
  | 0, _, _ => none
  | n + 1, cc, e => orE (stepQ (compE n) cc e) <| orE (stepM (compE n) cc e) (orE (stepD (compE n) cc e) (orE (orE (stepE (compE n) (compT n) cc e) (orE (stepC (compE n) cc e) (stepN (compE n) (compT n) cc e))) (some eBad)))
def compT : Nat → CC → Expr → Option ST
  | 0, _, _ => none
  | n + 1, cc, e => some ((orT (stepTQ (compE n) cc e) (stepT (compE n) (compT n) cc e)).getD tBad)
end
/-! ### statements -/
/-- the names that an expression reads -/
def ment : Nat → Expr → List Str
  | 0, _ => []
  | _ + 1, .Name x _ => [x]
  | n + 1, .BinOp a _ b _ => ment n a ++ ment n b
  | n + 1, .UnaryOp _ a _ => ment n a
  | n + 1, .BoolOp _ es _ => es.flatMap (ment n)
  | n + 1, .Compare a _ es _ => ment n a ++ es.flatMap (ment n)
  | n + 1, .IfExp c a b _ => ment n c ++ ment n a ++ ment n b
  | n + 1, .Tuple es _ _ => es.flatMap (ment n)
  | n + 1, .List es _ => es.flatMap (ment n)
  | n + 1, .Call f es kws _ => ment n f ++ es.flatMap (ment n) ++ kws.flatMap fun k => ment n k.value
  | n + 1, .Attribute a _ _ => ment n a
  | n + 1, .Subscript (.Name _ _) (.Slice a b c _) _ => a.toList.flatMap (ment n) ++ b.toList.flatMap (ment n) ++ c.toList.flatMap (ment n)
  | n + 1, .Subscript a b _ => ment n a ++ ment n b
  | n + 1, .Slice a b c _ => a.toList.flatMap (ment n) ++ b.toList.flatMap (ment n) ++ c.toList.flatMap (ment n)
  | n + 1, .ListComp e gs _ _ => ment n e ++ gs.flatMap fun g => ment n g.iter ++ g.ifs.flatMap (ment n)
  | n + 1, .JoinedStr es _ => es.flatMap (ment n)
  | n + 1, .FormattedValue e _ _ _ => ment n e
  | n + 1, .Starred e _ => ment n e
  | _, _ => []
def frzAll (N : List Str) : List Str → SS → SS
  | [], s => s
  | x :: xs, s => match posOf N x 0 with
    | some i => sSeq (sFrz i) (frzAll N xs s)
    | none => frzAll N xs s
def frzBy (cc : CC) (es : List Expr) (s : SS) : SS := frzAll cc.N (cc.own.filter fun x => es.any fun e => (ment 30 e).contains x) s
/-- the stores of a, b = x, y: some names if they are exchanged -/
def swp (sc : Scope) (ts vs : List Expr) : Option (Option (List Str)) :=
  if !(ts.length == 2 || ts.length == 3) || vs.length != ts.length then some none else
  if vs.any fun | .Starred .. => true | _ => false then some none else
  let line := (ts.head?.map (·.pos.line)).getD 0
  let names := ts.filterMap fun
    | .Name id pos => if sc.names.lookup id == some .local && pos.line == line then some id else none
    | _ => none
  if names.length != ts.length || names.eraseDups.length != names.length then some none else
  if vs.all (foldedForSure 8) then some none else
  if vs.all (constantsAlone 8) then none else some (some names)
def sgBy (cc : CC) (f : Expr → Option SE) : Nat → Expr → Option SG
  | 0, _ => none
  | n + 1, .Name x p => (tgBy cc (n + 1) (.Name x p)).map gTg
  | _ + 1, .Subscript a b _ => if notSlice b then match f a, f b with
    | some x, some y => some (gCell x y)
    | _, _ => none else none
  | _, _ => none
def sgsBy (cc : CC) (f : Expr → Option SE) (n : Nat) : List Expr → Option (List SG)
  | [] => some []
  | e :: es => match sgBy cc f n e, sgsBy cc f n es with
    | some a, some b => some (a :: b)
    | _, _ => none
def stmtsBy (f : Stmt → Option SS) : List Stmt → Option SS
  | [] => some sNil
  | [s] => f s
  | s :: s' :: r => match f s, stmtsBy f (s' :: r) with
    | some a, some b => some (sSeq a b)
    | _, _ => none
def sBad : SS := fun _ _ _ => .bad
noncomputable def stepS (fE : CC → Expr → Option SE) (fT : CC → Expr → Option ST) (fS : CC → Stmt → Option SS) : CC → Stmt → Option SS
  | cc, .Return (some e) _ => match cc.cel, e with
    | true, .List es _ => if es.length ≤ 1000 then (argsBy (fE cc) es).map fun a => sRet (eCell a) else none
    | _, e => (fE cc e).map fun x => frzBy cc [e] (sRet x)
  | cc, .Expr (.Call (.Attribute (.Name x p1) m p2) [a] [] p3) _ => if m = "append" ∧ cc.own.contains x = true ∧ (p2.endLine == p3.line) = true ∧ notStar a = true then match varOf cc x, fE cc a with
    | some i, some e => some (frzAll cc.N (cc.own.filter fun y => (ment 30 a).contains y && y != x) (sApp i e))
    | _, _ => none else none
  | cc, .Expr e _ => if notComp e then (fE cc e).map fun x => frzBy cc [e] (sExp x) else none
  | cc, .Assign [.Name x px] e pos => match tgBy cc 1 (.Name x px) with
    | some (.nm i) => match cc.own.contains x, e with
      | true, .List es _ => if es.length ≤ 1000 then (argsBy (fE cc) es).map fun a => frzAll cc.N (cc.own.filter fun y => (es.any fun e => (ment 30 e).contains y) && y != x) (sOwn i a) else none
      | true, .BinOp a .Add b _ => (match fE cc a, fE cc b with
        | some x, some y => some (frzBy cc [a, b] (sOwnA i x y))
        | _, _ => none)
      | _, e => (fE cc e).map fun v => frzBy cc [e] (sAsg v (gTg (.nm i)))
    | _ => none
  | cc, .Assign [.Tuple ts k p] (.Tuple vs k2 p2) pos => match swp cc.sc ts vs with
    | some (some names) => match ts, vs with
      | [.Name x px, .Name y py], [a, b] => match posOf cc.N x 0, posOf cc.N y 0, argsBy (fE cc) [a, b] with
        | some i, some j, some as => if names = [x, y] ∧ i ≠ j ∧ cc.sc.names.lookup x = some .local ∧ cc.sc.names.lookup y = some .local then some (frzBy cc [a, b] (sPar [i, j] as)) else none
        | _, _, _ => none
      | [.Name x px, .Name y py, .Name z pz], [a, b, c] => match posOf cc.N x 0, posOf cc.N y 0, posOf cc.N z 0, argsBy (fE cc) [a, b, c] with
        | some i, some j, some l, some as => if names = [x, y, z] ∧ i ≠ j ∧ i ≠ l ∧ j ≠ l ∧ cc.sc.names.lookup x = some .local ∧ cc.sc.names.lookup y = some .local ∧ cc.sc.names.lookup z = some .local then some (frzBy cc [a, b, c] (sPar [i, j, l] as)) else none
        | _, _, _, _ => none
      | _, _ => none
    | some none => if vs.length ≤ 1000 then match argsBy (fE cc) vs, sgsBy cc (fE cc) 8 ts with
      | some a, some g => some (frzBy cc (vs ++ ts) (sAsg (eTup a) (gTp g)))
      | _, _ => none else none
    | none => none
  | cc, .Assign [.Tuple ts k p] e pos => if notTuple e && notComp e then match fE cc e, sgsBy cc (fE cc) 8 ts with
    | some v, some g => some (frzBy cc (e :: ts) (sAsg v (gTp g)))
    | _, _ => none else none
  | cc, .Assign [.Subscript a b p] e pos => if notSlice b && notComp e then match fE cc a, fE cc b, fE cc e with
    | some x, some y, some v => some (frzBy cc [a, b, e] (sAsg v (gCell x y)))
    | _, _, _ => none else none
  | cc, .Assign [.Attribute a f p] e pos => if notComp e then match fE cc a, fE cc e with
    | some x, some v => some (frzBy cc [a, e] (sAsg v (gFld f (attrTab cc.ct.attrs f) x)))
    | _, _ => none else none
  | cc, .If c a b _ => match fT cc c, stmtsBy (fS cc) a, stmtsBy (fS cc) b with
    | some t, some x, some y => some (frzBy cc [c] (sIf t x y))
    | _, _, _ => none
  | cc, .For tg iter b [] _ => match iterT cc (fE cc) tg iter, tgBy cc 8 tg, stmtsBy (fS cc) b with
    | some it, some g, some x => some (frzBy cc [iter] (sFor it g x))
    | _, _, _ => none
  | cc, .While c b [] _ => match fT cc c, stmtsBy (fS cc) b with
    | some t, some x => some (sWhl t x)
    | _, _ => none
  | _, .Pass _ => some sNil
  | _, .Break _ => some sBrk
  | _, .Continue _ => some sCnt
  | _, _ => none
def unStar : Expr → Expr
  | .Starred e _ => e
  | e => e
def isStar : Expr → Bool
  | .Starred _ _ => true
  | _ => false
/-- the last one is starred, and no other one -/
def lastStar : List Expr → Bool
  | [] => false
  | [.Starred t _] => !isStar t
  | [_] => false
  | e :: es => !isStar e && lastStar es
/-- further statements: raise C(e); a, *b = t -/
noncomputable def stepX (fE : CC → Expr → Option SE) (fS : CC → Stmt → Option SS) : CC → Stmt → Option SS
  | cc, .Raise (some (.Call (.Name c _) [e] [] _)) none _ => if okName c && glB cc.sc c && notStar e then match cc.ct.xcs.lookup c, fE cc e with
    | some f, some s => some (frzBy cc [e] (sRaise c f s))
    | _, _ => none else none
  | cc, .Assign [.Tuple ts _ _] e _ => if lastStar ts && notTuple e && notComp e then match fE cc e, tgsBy cc 8 (ts.map unStar) with
    | some v, some tg => some (frzBy cc (e :: ts) (sAsg v (gStarT tg)))
    | _, _ => none else none
  | cc, .For (.Tuple ts k p) (.Call (.Name x _) [a] [] _) b [] _ => if x = "enumerate" ∧ glB cc.sc x = true then (match argsBy (fE cc) [a], tgBy cc 8 (.Tuple ts k p), stmtsBy (fS cc) b with
    | some as, some g, some s => some (frzBy cc [a] (sFor (eEnum as) g s))
    | _, _, _ => none) else none
  | _, _ => none
def orS (a b : Option SS) : Option SS := match a with
  | some s => some s
  | none => b
noncomputable def compS : Nat → CC → Stmt → Option SS
  | 0, _, _ => none
  | n + 1, cc, e => some ((orS (stepX (compE n) (compS n) cc e) (stepS (compE n) (compT n) (compS n) cc e)).getD sBad)
end
end DS
namespace DS
open PySem L2 PyProof.Rows
/-! ## the meaning is right -/
def bltNames : List Str := ["abs", "max", "min", "len", "divmod", "isinstance", "all", "any", "repr", "str", "range", "int", "bool", "tuple", "list", "enumerate", "zip", "sorted", "set", "dict"]
structure CtOk (X : Cx) (ct : CT) (lv : Nat) (C : FEnv) : Prop where
  attr : ∀ f c k, (f, c, k) ∈ ct.attrs → AttrOk X C lv c f k
  meth : ∀ m c f, (m, c, f) ∈ ct.meths → ∀ n ks src, (f, n, ks, src) ∈ ct.msh → MethOk X C lv c m n ks f src
  make : ∀ c f, (c, f) ∈ ct.mks → ∀ n ks src, (f, n + 1, ks, src) ∈ ct.msh → MkOk X C lv c n ks f src
  cons : ∀ x d, (x, d) ∈ ct.cons → ∃ v u, X.mg x = some u ∧ RelV v u ∧ ∀ o, Rep X.K o v d
  isi : IsiOk X.K ct.anc
  cls : ∀ c l, (c, l) ∈ ct.anc → X.mg c = some (.ref (He.ga X.K c))
  ops : ∀ m c f, (m, c, f) ∈ ct.meths → opsB X.K ct.anc m c = true
  mk0 : ∀ c, c ∈ ct.mk0 → X.mg c = some (.ref (He.ga X.K c)) ∧ Mk0 X.K (He.ga X.K c)
  cfs : ∀ c m f, (c, m, f) ∈ ct.cfs → ∀ n ks src, (f, n, ks, src) ∈ ct.msh → CFunOk X C lv c m n ks f src
  cms : ∀ c m f, (c, m, f) ∈ ct.cms → ∀ n ks src, (f, n, ks, src) ∈ ct.msh → CMetOk X C lv c m n ks f src
  ccs : ∀ c f d, (c, f, d) ∈ ct.ccs → CConOk X c f d
  dcs : ∀ c kvs, (c, kvs) ∈ ct.dcs → DcOk X c kvs
  xcs : ∀ c f, (c, f) ∈ ct.xcs → XcOk X c f
  star : ∀ c f, (c, f) ∈ ct.mks → f ∈ ct.star → ∀ n, n ≤ 60 → MkOk X C lv c n [] f [.pos 0, .star 1]
structure GE (X : Cx) (cc : CC) (lv : Nat) (C : FEnv) : Prop where
  sc : X.env.scope = cc.sc
  N : X.N = cc.N
  nd : X.N.Nodup
  fn : X.fn = cc.fnc
  calm : X.calm = true
  grd : X.A.guards = some []
  room : Room (lv + 1) X.A
  room2 : Room (lv + 2) X.A
  ct : CtOk X cc.ct lv C
  free : ∀ x ∈ bltNames, (∀ s ∈ cc.shapes, s.1 ≠ x) → X.mg x = none
  call : ∀ s ∈ cc.shapes, CallOk X C lv s.1 s.2.1 s.2.2.1 s.2.2.2
/-! ### small facts of the text -/
theorem posOf_get : ∀ (ys : List Str) (x : Str) (k i : Nat), posOf ys x k = some i → k ≤ i ∧ ys[i - k]? = some x
  | [], _, _, _, h => by simp [posOf] at h
  | y :: ys, x, k, i, h => by
    unfold posOf at h
    split at h
    · rename_i e
      cases h
      exact ⟨Nat.le_refl _, by rw [Nat.sub_self]; simp [e]⟩
    · obtain ⟨a, b⟩ := posOf_get ys x (k + 1) i h
      refine ⟨by omega, ?_⟩
      rw [show i - k = (i - (k + 1)) + 1 by omega, List.getElem?_cons_succ]
      exact b
theorem posOf_ok {ys : List Str} {x : Str} {i : Nat} (h : posOf ys x 0 = some i) : ys[i]? = some x := (posOf_get ys x 0 i h).2
theorem vis_ok {sc : Scope} {x : Str} (h : visB sc x = true) : Vis sc x := by
  unfold visB at h
  split at h
  · exact .inl (by assumption)
  · exact .inr (.inl (by assumption))
  · exact .inr (.inr (by assumption))
  · cases h
theorem gl_ok {X : Cx} {x : Str} (h : glB X.env.scope x = true) : Gl X x := by
  unfold glB at h
  split at h
  · assumption
  · cases h
theorem okName_1 {x : Str} (h : okName x = true) : (x == ("__debug__" : Str)) = false ∧ (x == ("__classdict__" : Str)) = false ∧ x ≠ "__name__" := by
  unfold okName at h
  simp only [Bool.and_eq_true, Bool.not_eq_true'] at h
  exact ⟨h.1.1, h.1.2, fun e => by rw [e] at h; simp at h⟩
theorem star_ok {a : Expr} {es : List Expr} {env : Env} (h : notStar a = true) : starEach (a :: es) env = (false, eval a env) :: starEach es env := by
  cases a <;> first | rfl | cases h
theorem plainIx_ok {b : Expr} (h : notSlice b = true) : PlainIx b := fun o i => by
  cases b <;> first | rfl | cases h
theorem noset_ok {b : Expr} (op : CmpOp) (h : notSet b = true) : behindInMarks op b = false := by
  cases b <;> first | rfl | cases h
theorem noset2_ok {b c : Expr} (op op' : CmpOp) (h : notSet c = true) : lastMarks [op, op'] [b, c] = false := by
  show behindInMarks op' c = false
  exact noset_ok op' h
theorem nocomp_ok {e : Expr} {t : Option Expr} {l : Nat} {env : Env} (h : notComp e = true) : swapsWith e t l env = pure false := by
  cases e <;> first | rfl | cases h
theorem fold_ok {e : Expr} {env : Env} (h : notSet e = true) (x : Value) : foldedSetIterable e env x = pure x := by
  cases e <;> first | rfl | cases h
theorem plainT_ok {e : Expr} {env : Env} (h : plainT e = true) (whole : Sem Value) : isTrue e env whole = (do let v ← whole; standAt e.pos; holding [v] (truthy v)) := by
  cases e with
  | UnaryOp op a p => cases op <;> first | rfl | cases h
  | BoolOp _ _ _ => cases h
  | IfExp _ _ _ _ => cases h
  | Compare _ _ _ _ => cases h
  | _ => rfl
section
variable {X : Cx} {cc : CC} {lv : Nat} {C : FEnv}
theorem GE.gl (G : GE X cc lv C) {x : Str} (h : glB cc.sc x = true) : Gl X x := gl_ok (by rw [G.sc]; exact h)
theorem GE.var (G : GE X cc lv C) {x : Str} {i : Nat} {p : Pos} (h : varOf cc x = some i) : HE X C (.Name x p) (eVar i) := by
  unfold varOf at h
  split at h
  · rename_i c
    simp only [Bool.and_eq_true] at c
    obtain ⟨o1, o2, _⟩ := okName_1 c.1
    exact h_var (by rw [G.N]; exact posOf_ok h) (by rw [G.sc]; exact vis_ok c.2) o1 o2
  · cases h
theorem opOf_ok {op : Operator} {g : D → D → Option D} (h : opOf op = some g) : OpR X (binaryOp op) (rD2 X.K g) := by
  cases op <;> first
    | (cases h; first | exact bo_add | exact bo_sub | exact bo_mul | exact bo_fdiv | exact bo_mod | exact bo_pow)
    | cases h
theorem cmpOf_ok (G : GE X cc lv C) {op : CmpOp} {g : D → D → Option D} (h : cmpOf op = some g) : OpR X (compareOp op) (rD2 X.K g) := by
  cases op <;> first
    | (cases h; first | exact bo_eq G.room.units | exact bo_ne G.room.units | exact bo_lt | exact bo_le | exact bo_gt | exact bo_ge | exact bo_is | exact bo_isNot | exact bo_in (by have := G.room.un; omega) | exact bo_notIn (by have := G.room.un; omega))
    | cases h
theorem eqv_bl {b : Bool} {d e r : D} (q : dEqv b d e = some r) : ∃ k, r = .bl k := by
  unfold dEqv at q
  split at q
  · split at q
    · cases q
      exact ⟨_, rfl⟩
    · cases q
  · cases q
theorem in_bl {b : Bool} {d e r : D} (q : dInN b d e = some r) : ∃ k, r = .bl k := by
  unfold dInN at q
  repeat' split at q
  all_goals first | (cases q; exact ⟨_, rfl⟩) | (cases q; done) | (obtain ⟨z, _, e⟩ := Option.map_eq_some_iff.mp q; exact ⟨_, e.symm⟩)
theorem cmpOf_bl {op : CmpOp} {g : D → D → Option D} (h : cmpOf op = some g) : Boolish g := fun d e r q => by
  cases op <;> first
    | (cases h
       first
         | (unfold dEq at q; split at q; (cases q; exact ⟨_, rfl⟩); exact eqv_bl q)
         | (unfold dNe at q; split at q; (cases q; exact ⟨_, rfl⟩); exact eqv_bl q)
         | (unfold dLt at q; split at q; (cases q; exact ⟨_, rfl⟩); cases q)
         | (unfold dLe at q; split at q; (cases q; exact ⟨_, rfl⟩); cases q)
         | (unfold dGt at q; split at q; (cases q; exact ⟨_, rfl⟩); cases q)
         | (unfold dGe at q; split at q; (cases q; exact ⟨_, rfl⟩); cases q)
         | (unfold dIs at q; split at q; (cases q; exact ⟨_, rfl⟩); cases q)
         | (unfold dIsNot at q; split at q; (cases q; exact ⟨_, rfl⟩); cases q)
         | exact in_bl q)
    | cases h
/-! ### lists of arguments -/
theorem args_ok {f : Expr → Option SE} (hf : ∀ e s, f e = some s → HE X C e s) : ∀ (es : List Expr) (s : SA), argsBy f es = some s → HA X C es s ∧ Long es.length s ∧ (es = [] → s = aNil) ∧ (∀ e r, es = e :: r → starEach (e :: r) X.env = (false, eval e X.env) :: starEach r X.env) ∧ ∀ pos, (backTo pos (starEach es X.env)).any (·.1) = false
  | [], s, h => by
    cases h
    exact ⟨h_anil, long_nil, fun _ => rfl, fun e r z => (by cases z), fun _ => rfl⟩
  | e :: es, s, h => by
    unfold argsBy at h
    split at h
    · rename_i c
      split at h
      · rename_i a b e1 e2
        cases h
        obtain ⟨i1, i2, _, _, i3⟩ := args_ok hf es b e2
        refine ⟨h_acons (hf e a e1) i1 (star_ok c), long_cons i2, fun z => (by cases z), fun e' r z => (by cases z; exact star_ok c), fun pos => ?_⟩
        rw [star_ok c]
        show (false || (backTo pos (starEach es X.env)).any (·.1)) = false
        rw [i3 pos]
        rfl
      · cases h
    · cases h
theorem kws_ok {f : Expr → Option SE} (hf : ∀ e s, f e = some s → HE X C e s) : ∀ (kws : List Keyword) (ks : List Str) (s : SA), kwBy f kws = some (ks, s) → HK X C kws s ∧ Long ks.length s ∧ (∀ pos, (backToKw pos (keywordEach kws X.env)).all (·.1.isSome) = true) ∧ (∀ pos, (backToKw pos (keywordEach kws X.env)).filterMap (·.1) = ks) ∧ ∀ pos, (backToKw pos (keywordEach kws X.env)).any (·.1.isNone) = false
  | [], ks, s, h => by
    cases h
    exact ⟨h_knil, long_nil, fun _ => rfl, fun _ => rfl, fun _ => rfl⟩
  | ⟨some n, e, p⟩ :: r, ks, s, h => by
    unfold kwBy at h
    split at h
    · rename_i a ns b e1 e2
      cases h
      obtain ⟨i1, i2, i3, i4, i5⟩ := kws_ok hf r ns b e2
      exact ⟨h_kcons (hf e a e1) i1, long_cons i2, fun pos => i3 pos, fun pos => congrArg (n :: ·) (i4 pos), fun pos => i5 pos⟩
    · cases h
  | ⟨none, e, p⟩ :: r, ks, s, h => by
    unfold kwBy at h
    cases h
theorem and_ok {f : Expr → Option SE} (hf : ∀ e s, f e = some s → HE X C e s) {pos : Pos} : ∀ (es : List Expr) (s : SE), andBy f eAn es = some s → HE X C (.BoolOp .And es pos) s
  | [], s, h => by cases h
  | [e], s, h => h_one (hf e s h)
  | e :: e' :: es, s, h => by
    unfold andBy at h
    split at h
    · rename_i a b e1 e2
      cases h
      exact h_and (hf e a e1) (and_ok hf (e' :: es) b e2)
    · cases h
theorem or_ok {f : Expr → Option SE} (hf : ∀ e s, f e = some s → HE X C e s) {pos : Pos} : ∀ (es : List Expr) (s : SE), andBy f eOr es = some s → HE X C (.BoolOp .Or es pos) s
  | [], s, h => by cases h
  | [e], s, h => h_one (hf e s h)
  | e :: e' :: es, s, h => by
    unfold andBy at h
    split at h
    · rename_i a b e1 e2
      cases h
      exact h_or (hf e a e1) (or_ok hf (e' :: es) b e2)
    · cases h
theorem andT_ok {f : Expr → Option ST} (hf : ∀ e s, f e = some s → HT X C e s) {pos : Pos} : ∀ (es : List Expr) (s : ST), andTBy f tAn es = some s → HW X C (.BoolOp .And es pos) s
  | [], s, h => by cases h
  | [e], s, h => h_wand1 (hf e s h)
  | e :: e' :: es, s, h => by
    unfold andTBy at h
    split at h
    · rename_i a b e1 e2
      cases h
      exact h_wand (hf e a e1) (andT_ok hf (e' :: es) b e2)
    · cases h
theorem orT_ok {f : Expr → Option ST} (hf : ∀ e s, f e = some s → HT X C e s) {pos : Pos} : ∀ (es : List Expr) (s : ST), andTBy f tOr' es = some s → HW X C (.BoolOp .Or es pos) s
  | [], s, h => by cases h
  | [e], s, h => h_wor1 (hf e s h)
  | e :: e' :: es, s, h => by
    unfold andTBy at h
    split at h
    · rename_i a b e1 e2
      cases h
      exact h_wor (hf e a e1) (orT_ok hf (e' :: es) b e2)
    · cases h
theorem part_ok {f : Expr → Option SE} (hf : ∀ e s, f e = some s → HE X C e s) : ∀ (e : Option Expr) (s : SO), partBy f e = some s → HO' X C e s
  | none, s, h => by cases h; exact h_onone
  | some e, s, h => by
    obtain ⟨a, e1, e2⟩ := Option.map_eq_some_iff.mp (show (f e).map oSome = some s from h)
    subst e2
    exact h_osome (hf e a e1)
theorem findShape_ok : ∀ (l : List Shape) (f : Str) (n : Nat) (ks : List Str) (src : List Src), findShape l f n ks = some src → (f, n, ks, src) ∈ l
  | [], _, _, _, _, h => by cases h
  | (g, m, ls, sr) :: r, f, n, ks, src, h => by
    unfold findShape at h
    split at h
    · rename_i c
      obtain ⟨rfl, rfl, rfl⟩ := c
      cases h
      exact List.mem_cons_self
    · exact List.mem_cons_of_mem _ (findShape_ok r f n ks src h)
theorem tg_ok (G : GE X cc lv C) : ∀ n, (∀ (e : Expr) (t : Tg), tgBy cc n e = some t → PG X e (tTg X.K t)) ∧ (∀ (es : List Expr) (ts : List Tg), tgsBy cc n es = some ts → PGs X es (tTgs X.K ts) ∧ (assignEach es X.env).length = ts.length ∧ (assignEach es X.env).findIdx? (·.1) = none)
  | 0 => ⟨fun e t h => by simp [tgBy] at h, fun es ts h => by simp [tgsBy] at h⟩
  | n + 1 => by
    obtain ⟨i1, i2⟩ := tg_ok G n
    refine ⟨fun e t h => ?_, fun es ts h => ?_⟩
    · cases e with
      | Name x p =>
        simp only [tgBy] at h
        split at h
        · split at h
          · rename_i e0
            obtain ⟨i, e1, e2⟩ := Option.map_eq_some_iff.mp h
            subst e2
            have e0' : X.env.scope.names.lookup x = some .local := by rw [G.sc]; exact e0
            exact h_gname G.nd (by rw [G.N]; exact posOf_ok e1) (.inl e0') (.inr e0')
          · rename_i e0
            split at h
            · rename_i c
              obtain ⟨i, e1, e2⟩ := Option.map_eq_some_iff.mp h
              subst e2
              have e0' : X.env.scope.names.lookup x = some .cell := by rw [G.sc]; exact e0
              exact h_gname G.nd (by rw [G.N]; exact posOf_ok e1) (.inr e0') (.inl (by rw [G.fn]; exact c))
            · cases h
          · cases h
        · cases h
      | Tuple es k p =>
        simp only [tgBy] at h
        obtain ⟨ts, e1, e2⟩ := Option.map_eq_some_iff.mp h
        subst e2
        obtain ⟨a, b, c⟩ := i2 es ts e1
        exact h_gtup G.calm a b c
      | _ => simp [tgBy] at h
    · cases es with
      | nil =>
        simp only [tgsBy, Option.some.injEq] at h
        subst h
        exact ⟨h_gnil, rfl, rfl⟩
      | cons e es =>
        simp only [tgsBy] at h
        split at h
        · rename_i a b e1 e2
          cases h
          obtain ⟨j1, j2, j3⟩ := i2 es b e2
          have hs : assignEach (e :: es) X.env = (false, assign e X.env) :: assignEach es X.env := by
            cases n with
            | zero => simp [tgBy] at e1
            | succ n => cases e <;> first | rfl | simp [tgBy] at e1
          refine ⟨h_gcons (i1 e a e1) j1 hs, by rw [hs, List.length_cons, List.length_cons, j2], ?_⟩
          rw [hs, List.findIdx?_cons, j3]
          rfl
        · cases h
end
end DS
namespace DS
open PySem L2 PyProof.Rows
section
variable {X : Cx} {cc : CC} {lv : Nat} {C : FEnv}
theorem bmem {x : Str} (h : bltNames.contains x = true) : x ∈ bltNames := by simpa using h
theorem GE.blt (G : GE X cc lv C) {x : Str} (h : bltNames.contains x = true) (hs : ∀ n ks src, (x, n, ks, src) ∉ cc.shapes) : X.mg x = none :=
  G.free x (bmem h) fun s hm e => by
    obtain ⟨f, n, ks, src⟩ := s
    cases (show f = x from e)
    exact hs n ks src hm
/-- a context inside a comprehension -/
theorem GE.inBlk (G : GE X cc lv C) {scope : Scope} {s : Shared} {H : Hp} {A : Addr} {cl : List (Str × Addr)} {fp : List Addr} : GE (X.blk s H scope (compEnvC scope cl A X.env) fp) (cc.blk scope) lv C where
  sc := by
    show relabel scope X.env = relS scope cc.sc
    rw [← G.sc]
    rfl
  N := G.N
  nd := G.nd
  fn := rfl
  calm := G.calm
  grd := G.grd
  room := G.room
  room2 := G.room2
  ct := ⟨fun f c k h => (by have := G.ct.attr f c k h; cases k <;> exact this), G.ct.meth, G.ct.make, G.ct.cons, G.ct.isi, G.ct.cls, G.ct.ops, G.ct.mk0, G.ct.cfs, G.ct.cms, G.ct.ccs, G.ct.dcs, fun c f h => (let z := G.ct.xcs c f h; ⟨z.mg, z.oex, z.ini⟩), G.ct.star⟩
  free := G.free
  call := G.call
theorem iter_ok (G : GE X cc lv C) {f : Expr → Option SE} (hf : ∀ e s, f e = some s → HE X C e s) (hr : ∀ n ks src, (("range" : Str), n, ks, src) ∉ cc.shapes) {tg e : Expr} {s : SA} (h : iterBy cc f e = some s) : HI X C tg e s ∧ ∀ x, foldedSetIterable e X.env x = pure x := by
  unfold iterBy at h
  split at h
  · rename_i x p es pos
    refine ⟨?_, fun x => fold_ok rfl x⟩
    split at h
    · rename_i c
      obtain ⟨rfl, c⟩ := c
      have g := G.gl c
      have m := G.blt (x := "range") (by decide +kernel) hr
      split at h
      · obtain ⟨a, e1, e2⟩ := Option.map_eq_some_iff.mp h
        subst e2
        obtain ⟨j1, j2, _, j3, _⟩ := args_ok hf _ a e1
        exact h_rng1 g m j1 j2 (j3 _ _ rfl)
      · rename_i ea eb
        obtain ⟨a, e1, e2⟩ := Option.map_eq_some_iff.mp h
        subst e2
        obtain ⟨j1, j2, _, j3, _⟩ := args_ok hf _ a e1
        have n2 : notStar eb = true := by
          unfold argsBy at e1
          split at e1
          · split at e1
            · rename_i e3
              unfold argsBy at e3
              split at e3
              · assumption
              · cases e3
            · cases e1
          · cases e1
        have k := j3 _ _ rfl
        rw [star_ok n2] at k
        exact h_rng2 g m j1 j2 k (star_ok n2)
      · cases h
    · obtain ⟨a, e1, e2⟩ := Option.map_eq_some_iff.mp h
      subst e2
      exact h_iter (hf _ a e1)
  · split at h
    · rename_i c
      obtain ⟨a, e1, e2⟩ := Option.map_eq_some_iff.mp h
      subst e2
      exact ⟨h_iter (hf _ a e1), fun x => fold_ok c x⟩
    · cases h
theorem zip_any {f : Expr → Option SE} {a b : Expr} {s : SA} {env : Env} {pos : Pos} (hf : ∀ e s, f e = some s → HE X C e s) (h : argsBy f [a, b] = some s) : (backTo pos (starEach [b] env)).any (·.1) = false := by
  have n2 : notStar b = true := by
    unfold argsBy at h
    split at h
    · split at h
      · rename_i e3
        unfold argsBy at e3
        split at e3
        · assumption
        · cases e3
      · cases h
    · cases h
  cases b <;> first | rfl | cases n2
theorem iterT_ok (G : GE X cc lv C) {f : Expr → Option SE} (hf : ∀ e s, f e = some s → HE X C e s) (hr : ∀ n ks src, (("range" : Str), n, ks, src) ∉ cc.shapes) (hz : ∀ n ks src, (("zip" : Str), n, ks, src) ∉ cc.shapes) {tg e : Expr} {s : SA} (h : iterT cc f tg e = some s) : HI X C tg e s ∧ ∀ x, foldedSetIterable e X.env x = pure x := by
  unfold iterT at h
  split at h
  · rename_i z ez
    cases h
    unfold zipBy at ez
    split at ez
    · split at ez
      · rename_i c
        obtain ⟨rfl, c⟩ := c
        obtain ⟨as, e1, rfl⟩ := Option.map_eq_some_iff.mp ez
        obtain ⟨j1, j2, _, j3, j4⟩ := args_ok hf _ as e1
        exact ⟨h_zip (G.gl c) (G.blt (x := "zip") (by decide +kernel) hz) j1 j2 (j3 _ _ rfl) (zip_any hf e1), fun x => fold_ok rfl x⟩
      · cases ez
    · cases ez
  · exact iter_ok G hf hr h
theorem blt_ok (G : GE X cc lv C) {f : Str} {g : List D → Option D} (h : bltOf cc.ct.anc f = some g) (hg : Gl X f) (hs : ∀ n ks src, (f, n, ks, src) ∉ cc.shapes) {a : Expr} {es : List Expr} {ss : SA} {p pos : Pos} (ha : HA X C (a :: es) ss) (hn : f ≠ "__name__") (hd : (f == ("__debug__" : Str)) = false)
    (he : starEach (a :: es) X.env = (false, eval a X.env) :: starEach es X.env) (hp : (backTo pos (starEach es X.env)).any (·.1) = false) : HE X C (.Call (.Name f p) (a :: es) [] pos) (eBlt g ss) := by
  rcases (bltOf_or h).symm with h | h
  · unfold bltOf2 at h
    split at h
    · rename_i e; subst e; cases h; exact h_callT call_dList hg (G.blt (by decide +kernel) hs) (by decide +kernel) ha hn hd he hp
    split at h
    · rename_i e; subst e; cases h; exact h_callT call_dTuple hg (G.blt (by decide +kernel) hs) (by decide +kernel) ha hn hd he hp
    split at h
    · rename_i e; subst e; cases h; exact h_callT call_dBool hg (G.blt (by decide +kernel) hs) (by decide +kernel) ha hn hd he hp
    · cases h
  unfold bltOf1 at h
  split at h
  · rename_i e; subst e; cases h; exact h_callB bf_abs hg (G.blt (by decide +kernel) hs) (by decide +kernel) ha hn hd he hp
  split at h
  · rename_i e; subst e; cases h; exact h_callB (bf_max G.calm) hg (G.blt (by decide +kernel) hs) (by decide +kernel) ha hn hd he hp
  split at h
  · rename_i e; subst e; cases h; exact h_callB (bf_min G.calm) hg (G.blt (by decide +kernel) hs) (by decide +kernel) ha hn hd he hp
  split at h
  · rename_i e; subst e; cases h; exact h_callB bf_len hg (G.blt (by decide +kernel) hs) (by decide +kernel) ha hn hd he hp
  split at h
  · rename_i e; subst e; cases h; exact h_callB bf_divmod hg (G.blt (by decide +kernel) hs) (by decide +kernel) ha hn hd he hp
  split at h
  · rename_i e; subst e; cases h; exact h_callB (bf_isO G.ct.isi) hg (G.blt (by decide +kernel) hs) (by decide +kernel) ha hn hd he hp
  split at h
  · rename_i e; subst e; cases h; exact h_callB (bf_all G.calm) hg (G.blt (by decide +kernel) hs) (by decide +kernel) ha hn hd he hp
  split at h
  · rename_i e; subst e; cases h; exact h_callB (bf_any G.calm) hg (G.blt (by decide +kernel) hs) (by decide +kernel) ha hn hd he hp
  split at h
  · rename_i e; subst e; cases h; exact h_callB (bf_repr G.grd G.room.units) hg (G.blt (by decide +kernel) hs) (by decide +kernel) ha hn hd he hp
  split at h
  · rename_i e; subst e; cases h; exact h_callT bf_str hg (G.blt (by decide +kernel) hs) (by decide +kernel) ha hn hd he hp
  split at h
  · rename_i e; subst e; cases h; exact h_callT bf_int hg (G.blt (by decide +kernel) hs) (by decide +kernel) ha hn hd he hp
  · cases h
theorem ty_ok (G : GE X cc lv C) {x : Str} {t : String} (h : tyBy x = some t) (hg : Gl X x) (hs : ∀ n ks src, (x, n, ks, src) ∉ cc.shapes) (hn : x ≠ "__name__") (hd : (x == ("__debug__" : Str)) = false) {p : Pos} : HE X C (.Name x p) (eC (.ty t)) := by
  unfold tyBy at h
  split at h
  · rename_i e; subst e; cases h; exact h_tyn hg (G.blt (by decide +kernel) hs) (by decide +kernel) hn hd
  split at h
  · rename_i e; subst e; cases h; exact h_tyn hg (G.blt (by decide +kernel) hs) (by decide +kernel) hn hd
  split at h
  · rename_i e; subst e; cases h; exact h_tyn hg (G.blt (by decide +kernel) hs) (by decide +kernel) hn hd
  split at h
  · rename_i e; subst e; cases h; exact h_tyn hg (G.blt (by decide +kernel) hs) (by decide +kernel) hn hd
  split at h
  · rename_i e; subst e; cases h; exact h_tyn hg (G.blt (by decide +kernel) hs) (by decide +kernel) hn hd
  · cases h
end
/-- a built-in's name is no def's -/
def noBlt (l : List Shape) : Bool := l.all fun s => !(bltNames.contains s.1)
theorem noBlt_ok {l : List Shape} (h : noBlt l = true) {x : Str} (hx : bltNames.contains x = true) (n : Nat) (ks : List Str) (src : List Src) : (x, n, ks, src) ∉ l := fun hm => by
  unfold noBlt at h
  have := List.all_eq_true.mp h _ hm
  rw [show ((x, n, ks, src) : Shape).1 = x from rfl, hx] at this
  cases this
theorem bltOf_mem {anc : List (Str × List Str)} {f : Str} {g : List D → Option D} (h : bltOf anc f = some g) : bltNames.contains f = true := by
  rcases (bltOf_or h).symm with h | h
  · unfold bltOf2 at h
    repeat (split at h; (rename_i e; subst e; decide +kernel))
    cases h
  unfold bltOf1 at h
  repeat (split at h; (rename_i e; subst e; decide +kernel))
  cases h
theorem tyBy_mem {f : Str} {g : String} (h : tyBy f = some g) : bltNames.contains f = true := by
  unfold tyBy at h
  repeat (split at h; (rename_i e; subst e; decide +kernel))
  cases h
theorem tchn_ok {X : Cx} {C : FEnv} {a b c : Expr} {sa sb sc : SE} {pos : Pos} {op op' : CmpOp} {f g : D → D → Option D} (hf : Boolish f) (hg : Boolish g) (ho : OpR X (compareOp op) (rD2 X.K f)) (ho' : OpR X (compareOp op') (rD2 X.K g)) (ha : HE X C a sa) (hb : HE X C b sb) (hc : HE X C c sc)
    (hm : lastMarks [op, op'] [b, c] = false) : HT X C (.Compare a [op, op'] [b, c] pos) (tE (eChn f g sa sb sc)) :=
  pt_by (pt_chain ho ho' ha hb hc hm) fun s H Q ⟨o, r, st, w, l, h⟩ => by
    unfold tE eChn at h
    rw [bind_bind'] at h
    refine ⟨o, r, st, w, l, OutR.b h fun d st1 e1 h x o1 H1 w1 x1 r1 => ?_⟩
    rw [bind_bind'] at h
    refine ⟨o1, r, st1, w1, l.ext x1, (OutB.later h w1 x1).b fun e st2 e2 h y o2 H2 w2 x2 r2 => ?_⟩
    rw [bind_bind'] at h
    obtain ⟨z, e3, h⟩ := OutR.liftB h
    obtain ⟨k, rfl⟩ := hf _ _ _ e3
    refine ⟨o2, st2, d, e, _, w2, r1.mono x2.sub, r2, e3, fun v' o3 H3 w3 x3 r3 => ?_⟩
    have x13 := (x1.trans w1 x2).trans w2 x3
    cases r3
    refine ⟨k, rfl, ?_⟩
    cases k with
    | false => exact iteF ⟨_, rfl, h o3 H3 w3 (x2.trans w2 x3)⟩
    | true =>
      simp only at h
      rw [bind_bind'] at h
      refine iteT ⟨o3, r, st2, w3, l.ext x13, (OutB.later h w3 (x2.trans w2 x3)).b fun q st4 e4 h u o4 H4 w4 x4 r4 => ?_⟩
      obtain ⟨z', e5, h⟩ := OutR.liftB h
      obtain ⟨k', rfl⟩ := hg _ _ _ e5
      refine ⟨o4, _, e, q, _, w4, (r2.mono x3.sub).mono x4.sub, r4, e5, fun v'' o5 H5 w5 x5 r5 => ?_⟩
      cases r5
      exact ⟨_, rfl, h o5 H5 w5 (x4.trans w4 x5)⟩
theorem ifs_ok {X : Cx} {C : FEnv} {f : Expr → Option ST} (hf : ∀ e s, f e = some s → HT X C e s) : ∀ (es : List Expr) (s : ST), ifsBy f es = some s → PTs X es (tDB X.K (wx X) (s C))
  | [], s, h => by
    cases h
    exact ⟨fun pins s σ H Q I ⟨o, r, st, w, l, h⟩ => pts_nil.run pins s σ H Q I (h o H w (.refl o H))⟩
  | [c], s, h => pts_one (hf c s h)
  | _ :: _ :: _, s, h => by cases h
theorem tD.x0 {K : PySem.W.Frag} {E : XK} {f : REnv → Store → Res D} {s : L2.St} {H : Hp} {Q : VK} (h : tD K X0 f s H Q) : tD K E f s H Q := by
  obtain ⟨o, r, st, w, l, h⟩ := h
  exact ⟨o, r, st, w, l, h.mono (fun _ _ k => k) fun _ _ z cls d o' H' w' e' q => (z cls d o' H' w' e' q).elim⟩
theorem tDB.x0 {K : PySem.W.Frag} {E : XK} {f : REnv → Store → Res Bool} {s : L2.St} {H : Hp} {Q : Bool → Hp → Prop} (h : tDB K X0 f s H Q) : tDB K E f s H Q := by
  obtain ⟨o, r, st, w, l, h⟩ := h
  exact ⟨o, r, st, w, l, h.mono (fun _ _ k => k) fun _ _ z cls d o' H' w' e' q => (z cls d o' H' w' e' q).elim⟩
theorem HE.x0 {X : Cx} {C : FEnv} {e : Expr} {s : SE} (h : HE X C e s) : PE X e (tD X.K X0 (s C)) := pe_by h fun _ _ _ q => tD.x0 q
theorem ifs_ok0 {X : Cx} {C : FEnv} {f : Expr → Option ST} (hf : ∀ e s, f e = some s → HT X C e s) (es : List Expr) (s : ST) (h : ifsBy f es = some s) : PTs X es (tDB X.K X0 (s C)) :=
  ⟨fun pins s σ H Q I q => (ifs_ok hf es _ h).run pins s σ H Q I (tDB.x0 q)⟩
theorem lookup_mem {α : Type} : ∀ {l : List (Str × α)} {x : Str} {a : α}, l.lookup x = some a → (x, a) ∈ l
  | [], _, _, h => by simp at h
  | (y, b) :: l, x, a, h => by
    rw [List.lookup_cons] at h
    by_cases e : x = y
    · subst e
      simp at h
      subst h
      exact List.mem_cons_self
    · have ne : (x == y) = false := by simpa using e
      rw [ne] at h
      exact List.mem_cons_of_mem _ (lookup_mem h)
theorem attrTab_ok {l : List (Str × Str × AK)} {f c : Str} {k : AK} (h : (attrTab l f).lookup c = some k) : (f, c, k) ∈ l := by
  have := lookup_mem h
  unfold attrTab at this
  obtain ⟨x, hx, e⟩ := List.mem_filterMap.mp this
  split at e
  · rename_i c1
    cases e
    subst c1
    exact hx
  · cases e
theorem methTab_ok {msh : List Shape} {n : Nat} {ks : List Str} {l : List (Str × Str × Str)} {m c f : Str} {src : List Src} (h : (methTab msh n ks l m).lookup c = some (f, src)) : (m, c, f) ∈ l ∧ (f, n, ks, src) ∈ msh := by
  have := lookup_mem h
  unfold methTab at this
  obtain ⟨x, hx, e⟩ := List.mem_filterMap.mp this
  split at e
  · rename_i c1
    split at e
    · rename_i s e1
      cases e
      subst c1
      exact ⟨hx, findShape_ok _ _ _ _ _ e1⟩
    · cases e
  · cases e
theorem base_ok {a : Expr} {f : Str} {env : Env} (h : plainBase a = true) : attributeBase a f env (eval a env) = eval a env := by
  cases a with
  | Call func args kws pos =>
    cases func with
    | Name x p =>
      cases args with
      | nil =>
        cases kws with
        | nil =>
          have h : (!(x == ("super" : Str))) = true := h
          have h1 : (x != ("super" : Str)) = true := h
          unfold attributeBase
          simp only [h1, Bool.true_or, if_true]
          first | done | exact bind_pure _
        | cons _ _ => rfl
      | cons _ _ => rfl
    | _ => rfl
  | _ => rfl
/-- a method's call, as the machine does it -/
theorem meth_eval {a : Expr} {m : Str} {apos pos : Pos} {es : List Expr} {kws : List Keyword} {env : Env} (h1 : plainBase a = true) (h2 : (apos.endLine == pos.line) = true) (h3 : es.length + kws.length < 28) (h4 : (backTo pos (starEach es env)).any (·.1) = false) (h5 : (backToKw pos (keywordEach kws env)).all (·.1.isSome) = true) :
    eval (.Call (.Attribute a m apos) es kws pos) env = (do
      let ov ← eval a env
      standAt apos.atName
      let (f, first) ← holding [ov] (getMethod ov m (do return (← importBound a env).getD true))
      callWith pos f first (backTo pos (starEach es env)) (backToKw pos (keywordEach kws env))) := by
  have form : methodCallForm (es.length + kws.length) (backTo pos (starEach es env)) (backToKw pos (keywordEach kws env)) = true := by
    unfold methodCallForm
    rw [h5, Bool.and_true, ← List.not_any_eq_all_not, h4]
    show decide _ = true
    rw [decide_eq_true_eq]
    split <;> omega
  rw [arm_eval_Call, base_ok h1]
  unfold methodCall
  rw [form]
  have hp : methodCallPos true a env apos pos = pure pos := by
    unfold methodCallPos
    rw [h2]
    rfl
  rw [hp]
  simp only [pure_bind]
  rfl
theorem h_con {X : Cx} {C : FEnv} {x : Str} {pos : Pos} {d : D} {v : V} {u : Value} (hg : Gl X x) (hm : X.mg x = some u) (hr : RelV v u) (hd : ∀ o, Rep X.K o v d) (hdb : (x == ("__debug__" : Str)) = false) : HE X C (.Name x pos) (eC d) :=
  pe_by (pe_glob hg hm hr hdb) fun s H Q ⟨o, r, st, w, l, h⟩ => h _ o H w (.refl o H) (hd o)
theorem orE_out {a b : Option SE} {s : SE} (h : orE a b = some s) : a = some s ∨ b = some s := by
  cases a with
  | some _ => exact .inl h
  | none => exact .inr h
theorem list_ok {X : Cx} {C : FEnv} {f : Expr → Option SE} (hf : ∀ e s, f e = some s → HE X C e s) : ∀ (es : List Expr) (ss : List SE), listBy f es = some ss → PJ X es (ss.map fun a => tD X.K (wx X) (a C))
  | [], ss, h => by cases h; exact .nil
  | e :: es, ss, h => by
    unfold listBy at h
    split at h
    · rename_i a b e1 e2
      cases h
      exact .cons (hf _ _ e1) (list_ok hf es b e2)
    · cases h
theorem tm1_ok {X : Cx} {C : FEnv} {m : Str} {g : D → D → Option D} (h : tm1Of m = some g) {o e : Expr} {so se : SE} {apos pos : Pos} (ho : HE X C o so) (he : HE X C e se) (hs : starEach [e] X.env = [(false, eval e X.env)])
    (hbase : attributeBase o m X.env (eval o X.env) = eval o X.env) (hline : (apos.endLine == pos.line) = true) : HE X C (.Call (.Attribute o m apos) [e] [] pos) (eBinS g so se) := by
  unfold tm1Of at h
  split at h
  · rename_i c
    subst c
    cases h
    exact h_m1 on_split F.slot_str_split F.type_str_split m_split ho he hs hbase hline
  split at h
  · rename_i c
    subst c
    cases h
    exact h_m1 on_join F.slot_str_join F.type_str_join m_join ho he hs hbase hline
  split at h
  · rename_i c
    subst c
    cases h
    exact h_m1 on_starts F.slot_str_startswith F.type_str_startswith m_starts ho he hs hbase hline
  · cases h
theorem tl1_ok {X : Cx} {C : FEnv} {m : Str} {g : D → D → Option D} (h : tl1Of m = some g) {o e : Expr} {so se : SE} {apos pos : Pos} (ho : HE X C o so) (he : HE X C e se) (hs : starEach [e] X.env = [(false, eval e X.env)])
    (hbase : attributeBase o m X.env (eval o X.env) = eval o X.env) (hline : (apos.endLine == pos.line) = true) : HE X C (.Call (.Attribute o m apos) [e] [] pos) (eBinL g so se) := by
  unfold tl1Of at h
  split at h
  · rename_i c
    subst c
    cases h
    exact h_l1 F.slot_list_index F.type_list_index m_index ho he hs hbase hline
  · cases h
theorem opTab_ok {msh : List Shape} {n : Nat} {l : List (Str × Str × Str)} {m c f : Str} {ok : List Src → Bool} (h : (opTab msh l m n ok).lookup c = some f) : (m, c, f) ∈ l ∧ ∃ src, ok src = true ∧ (f, n, [], src) ∈ msh := by
  have := lookup_mem h
  unfold opTab at this
  obtain ⟨x, hx, e⟩ := List.mem_filterMap.mp this
  split at e
  · rename_i c1
    split at e
    · rename_i s e1
      split at e
      · rename_i c2
        cases e
        subst c1
        exact ⟨hx, s, c2, findShape_ok _ _ _ _ _ e1⟩
      · cases e
    · cases e
  · cases e
theorem isP2_ok {l : List Src} (h : isP2 l = true) : l = [.pos 0, .pos 1] := by
  unfold isP2 at h
  split at h
  · rfl
  · cases h
theorem isP1_ok {l : List Src} (h : isP1 l = true) : l = [.pos 0] := by
  unfold isP1 at h
  split at h
  · rfl
  · cases h
section
variable {X : Cx} {cc : CC} {lv : Nat} {C : FEnv}
theorem own_ok (G : GE X cc lv C) (m : Str) : OwnOk X C lv cc.ct.anc m (opTab cc.ct.msh cc.ct.meths m 2 isP2) := fun c f h => by
  obtain ⟨h1, src, h2, h3⟩ := opTab_ok h
  rw [isP2_ok h2] at h3
  exact ⟨G.ct.meth _ _ _ h1 _ _ _ h3, G.ct.ops _ _ _ h1⟩
theorem own_ok1 (G : GE X cc lv C) (m : Str) : OwnOk1 X C lv m (opTab cc.ct.msh cc.ct.meths m 1 isP1) := fun c f h => by
  obtain ⟨h1, src, h2, h3⟩ := opTab_ok h
  rw [isP1_ok h2] at h3
  exact G.ct.meth _ _ _ h1 _ _ _ h3
theorem own_okB (G : GE X cc lv C) : OwnOkB X C lv (opTab cc.ct.msh cc.ct.meths "__len__" 1 isP1) := fun c f h => by
  obtain ⟨h1, src, h2, h3⟩ := opTab_ok h
  rw [isP1_ok h2] at h3
  exact ⟨G.ct.meth _ _ _ h1 _ _ _ h3, He.eqO_ok (G.ct.ops _ _ _ h1)⟩
theorem mkBin_ok (G : GE X cc lv C) {op : Operator} {g : D → D → Option D} {a b : Expr} {sa sb : SE} {pos : Pos} (e1 : opOf op = some g) (ha : HE X C a sa) (hb : HE X C b sb) : HE X C (.BinOp a op b pos) (mkBin cc op g sa sb) := by
  unfold mkBin
  split
  · refine h_binC (or_mul G.room G.grd (own_ok G _) ?_) ha hb
    split
    · exact opOf_ok e1
    · have e1 : some dMul = some g := e1
      cases e1
      exact or_mulT (opOf_ok (op := .Mult) rfl)
  · split
    · exact h_bin (opOf_ok e1) ha hb
    · rename_i e2
      rw [← e2]
      exact h_binC (or_add G.room G.grd (own_ok G _) (opOf_ok e1)) ha hb
  · exact h_bin (opOf_ok e1) ha hb
theorem sub2_ok {b : Expr} (h : notSlice b = true) (v u : Value) : subscripted b true v u = runValue (.builtin "lifetime.subscript" ⟨[v, u], []⟩) := by
  cases b <;> first | rfl | cases h
theorem mkIx_ok (G : GE X cc lv C) {a b : Expr} {sa sb : SE} {pos : Pos} (ha : HE X C a sa) (hb : HE X C b sb) (c : notSlice b = true) : HE X C (.Subscript a b pos) (mkIx cc sa sb) := by
  unfold mkIx
  split
  · rename_i e2
    rw [← e2]
    exact h_ixO G.room G.grd (own_ok G _) ha hb (plainIx_ok c) (sub2_ok c)
  · exact h_ix ha hb (plainIx_ok c)
theorem mkCmp_ok (G : GE X cc lv C) {op : CmpOp} {g : D → D → Option D} {a b : Expr} {sa sb : SE} {pos : Pos} (e1 : cmpOf op = some g) (ha : HE X C a sa) (hb : HE X C b sb) (hm : behindInMarks op b = false) : HE X C (.Compare a [op] [b] pos) (mkCmp cc op g sa sb) ∧ HT X C (.Compare a [op] [b] pos) (tE (mkCmp cc op g sa sb)) := by
  unfold mkCmp
  split
  · exact ⟨h_cmpC (or_eq G.room G.grd (own_ok G _) (cmpOf_ok G e1)) ha hb hm, h_tcmpC (oEq_bl (cmpOf_bl e1)) (or_eq G.room G.grd (own_ok G _) (cmpOf_ok G e1)) ha hb hm⟩
  · exact ⟨h_cmpC (or_ne G.room G.grd (own_ok G _) (cmpOf_ok G e1)) ha hb hm, h_tcmpC (oEq_bl (cmpOf_bl e1)) (or_ne G.room G.grd (own_ok G _) (cmpOf_ok G e1)) ha hb hm⟩
  · exact ⟨h_cmpC (or_in G.room G.grd (own_ok G _) (own_ok G _) (cmpOf_ok G e1)) ha hb hm, h_tcmpC (oIn_bl (cmpOf_bl e1)) (or_in G.room G.grd (own_ok G _) (own_ok G _) (cmpOf_ok G e1)) ha hb hm⟩
  · exact ⟨h_cmpC (or_notIn G.room G.grd (own_ok G _) (own_ok G _) (cmpOf_ok G e1)) ha hb hm, h_tcmpC (oIn_bl (cmpOf_bl e1)) (or_notIn G.room G.grd (own_ok G _) (own_ok G _) (cmpOf_ok G e1)) ha hb hm⟩
  · exact ⟨h_cmp (cmpOf_ok G e1) ha hb hm, h_tcmp (cmpOf_bl e1) (cmpOf_ok G e1) ha hb hm⟩
theorem mkBlt_ok (G : GE X cc lv C) {f : Str} {g : List D → Option D} (h : bltOf cc.ct.anc f = some g) (hg : Gl X f) (hs : ∀ n ks src, (f, n, ks, src) ∉ cc.shapes) {a : Expr} {es : List Expr} {ss : SA} {p pos : Pos} (ha : HA X C (a :: es) ss) (hn : f ≠ "__name__") (hd : (f == ("__debug__" : Str)) = false)
    (he : starEach (a :: es) X.env = (false, eval a X.env) :: starEach es X.env) (hp : (backTo pos (starEach es X.env)).any (·.1) = false) : HE X C (.Call (.Name f p) (a :: es) [] pos) (mkBlt cc f g ss) := by
  unfold mkBlt
  split
  · split
    · rename_i e
      subst e
      have h : some dStr = some g := h
      cases h
      exact h_callTC (or_str G.room G.grd (own_ok1 G _) bf_str) hg (G.blt (by decide +kernel) hs) (by decide +kernel) ha hn hd he hp
    · split
      · rename_i e
        subst e
        have h : some dRepr = some g := h
        cases h
        exact h_callBC (or_repr G.room G.grd (own_ok1 G _) (bf_repr G.grd G.room.units)) hg (G.blt (by decide +kernel) hs) (by decide +kernel) ha hn hd he hp
      · split
        · rename_i e
          subst e
          split
          · exact blt_ok G h hg hs ha hn hd he hp
          · rename_i e2
            have h : some dLen = some g := h
            cases h
            rw [← e2]
            exact h_callBC (or_len G.room G.grd (own_ok1 G _) bf_len) hg (G.blt (by decide +kernel) hs) (by decide +kernel) ha hn hd he hp
        · split
          · rename_i e
            subst e
            have h : some dBool = some g := h
            cases h
            exact h_callTC (or_bool G.room G.grd (own_okB G) call_dBool) hg (G.blt (by decide +kernel) hs) (by decide +kernel) ha hn hd he hp
          · exact blt_ok G h hg hs ha hn hd he hp
  · exact blt_ok G h hg hs ha hn hd he hp
theorem look3_ok {α : Type} {c m : Str} {y : α} : ∀ {l : List (Str × Str × α)}, look3 l c m = some y → (c, m, y) ∈ l
  | [], h => by cases h
  | (a, b, z) :: r, h => by
    unfold look3 at h
    split at h
    · rename_i e
      obtain ⟨rfl, rfl⟩ := e
      cases h
      exact List.mem_cons_self
    · exact List.mem_cons_of_mem _ (look3_ok h)
theorem mkTab_ok {msh : List Shape} {n : Nat} {ks : List Str} {l : List (Str × Str)} {c f : Str} {src : List Src} (h : (mkTab msh n ks l).lookup c = some (f, src)) : (c, f) ∈ l ∧ (f, n, ks, src) ∈ msh := by
  have := lookup_mem h
  unfold mkTab at this
  obtain ⟨x, hx, e⟩ := List.mem_filterMap.mp this
  split at e
  · rename_i s e1
    cases e
    exact ⟨hx, findShape_ok _ _ _ _ _ e1⟩
  · cases e
theorem stepD_ok (G : GE X cc lv C) {fE : CC → Expr → Option SE} (i1 : ∀ (e : Expr) (s : SE), fE cc e = some s → HE X C e s) {e : Expr} {s : SE} (h : stepD fE cc e = some s) : HE X C e s := by
  unfold stepD at h
  split at h
  · split at h
    · split at h
      · rename_i i l k e1 e2 e3
        cases h
        unfold varOf at e1
        split at e1
        · rename_i c
          simp only [Bool.and_eq_true] at c
          obtain ⟨o1, o2, _⟩ := okName_1 c.1
          exact h_slO (by rw [G.N]; exact posOf_ok e1) (by rw [G.sc]; exact vis_ok c.2) o1 o2 (part_ok i1 _ _ e2) (part_ok i1 _ _ e3)
        · cases e1
      · cases h
    · cases h
  · split at h
    · rename_i c
      simp only [Bool.and_eq_true] at c
      obtain ⟨o1, _, o3⟩ := okName_1 c.1.1
      split at h
      · rename_i kvs s' e1 e2
        cases h
        exact h_key (G.ct.dcs _ _ (lookup_mem e1)) (G.gl c.1.2) o1 (i1 _ _ e2) (plainIx_ok c.2)
      · cases h
    · cases h
  · cases h
theorem stepC_ok (G : GE X cc lv C) (hb : noBlt cc.shapes = true) {fE : CC → Expr → Option SE} (i1 : ∀ (e : Expr) (s : SE), fE cc e = some s → HE X C e s) {e : Expr} {s : SE} (h : stepC fE cc e = some s) : HE X C e s := by
  unfold stepC at h
  split at h
  · split at h
    · rename_i c
      simp only [Bool.and_eq_true] at c
      obtain ⟨o1, _, o3⟩ := okName_1 c.1
      obtain ⟨d, e1, e2⟩ := Option.map_eq_some_iff.mp h
      subst e2
      exact h_ccon (G.ct.ccs _ _ _ (look3_ok e1)) (G.gl c.2) o1
    · cases h
  · split at h
    · rename_i c
      simp only [Bool.and_eq_true, decide_eq_true_eq] at c
      obtain ⟨⟨⟨c1, c2⟩, c3⟩, c4⟩ := c
      obtain ⟨o1, _, o3⟩ := okName_1 c1
      split at h
      · rename_i as ks kw e1 e2
        obtain ⟨j1, j2, j3, j4, j5⟩ := args_ok i1 _ as e1
        obtain ⟨k1, k2, k3, k4, k5⟩ := kws_ok i1 _ ks kw e2
        split at h
        · rename_i f e3
          obtain ⟨src, e4, e5⟩ := Option.map_eq_some_iff.mp h
          subst e5
          exact h_cfun (G.ct.cfs _ _ _ (look3_ok e3) _ _ _ (findShape_ok _ _ _ _ _ e4)) (G.room.mono (Nat.le_succ _)) G.grd (G.gl c2) o1 j1 k1 j2 k2 j3 (k3 _) (k4 _) j4 (by rw [j5, k5]; rfl) (meth_eval rfl c3 c4 (j5 _) (k3 _))
        · split at h
          · rename_i f e0 es0 e3
            obtain ⟨src, e4, e5⟩ := Option.map_eq_some_iff.mp h
            subst e5
            have j6 := j4 _ _ rfl
            refine h_cmet (G.ct.cms _ _ _ (look3_ok e3) _ _ _ (findShape_ok _ _ _ _ _ e4)) (G.room.mono (Nat.le_succ _)) G.grd (G.gl c2) o1 j1 j2 j6 ?_ (meth_eval rfl c3 c4 (j5 _) rfl)
            have := j5 ⟨0, 0, 0, 0⟩
            rw [j6] at this
            have any_pos : ∀ (p q : Pos) (l : List (Bool × Sem Value)), (backTo p l).any (·.1) = (backTo q l).any (·.1) := fun p q l => by
              unfold backTo
              rw [List.any_map, List.any_map]
              rfl
            rw [any_pos _ ⟨0, 0, 0, 0⟩]
            exact this
          · cases h
      · cases h
    · cases h
  · split at h
    · rename_i i e0
      split at h
      · rename_i as ks kw e1 e2
        cases h
        obtain ⟨j1, j2, j3, j4, j5⟩ := args_ok i1 _ as e1
        obtain ⟨k1, k2, k3, k4, k5⟩ := kws_ok i1 _ ks kw e2
        refine h_makeV (G.var e0) (fun c f src q => ?_) G.room G.grd j1 k1 j2 k2 j3 (k3 _) (k4 _) j4 (by rw [j5, k5]; rfl)
        obtain ⟨q1, q2⟩ := mkTab_ok q
        exact G.ct.make _ _ q1 _ _ _ q2
      · cases h
    · split at h
      · rename_i c
        simp only [Bool.and_eq_true] at c
        obtain ⟨o1, _, o3⟩ := okName_1 c.1.1
        split at h
        · cases h
          obtain ⟨q1, q2⟩ := G.ct.mk0 _ (by simpa using c.2)
          exact h_make0 q1 q2 (G.gl c.1.2) o1
        · cases h
      · cases h
  · cases h
end
theorem stepN_ok {X : Cx} {cc : CC} {lv : Nat} {C : FEnv} (G : GE X cc lv C) (hb : noBlt cc.shapes = true) {fE : CC → Expr → Option SE} {fT : CC → Expr → Option ST} (i1 : ∀ (e : Expr) (s : SE), fE cc e = some s → HE X C e s) (i2 : ∀ (e : Expr) (s : ST), fT cc e = some s → HT X C e s)
    {e : Expr} {s : SE} (h : stepN fE fT cc e = some s) : HE X C e s := by
  unfold stepN at h
  split at h
  · cases h; exact h_emp
  · split at h
    · rename_i x y e1 e2
      cases h
      exact h_back (i1 _ _ e1) (i1 _ _ e2)
    · cases h
  · -- a name of the module
    split at h
    · rename_i c
      simp only [Bool.and_eq_true] at c
      obtain ⟨o1, _, o3⟩ := okName_1 c.1
      split at h
      · rename_i d e1
        cases h
        obtain ⟨v, u, q1, q2, q3⟩ := G.ct.cons _ _ (lookup_mem e1)
        exact h_con (G.gl c.2) q1 q2 q3 o1
      · split at h
        · rename_i l e1
          cases h
          exact h_con (v := .ref _) (G.gl c.2) (G.ct.cls _ _ (lookup_mem e1)) rfl (fun o => .cls _) o1
        · cases h
    · cases h
  · -- an attribute
    split at h
    · rename_i c
      obtain ⟨x, e1, e2⟩ := Option.map_eq_some_iff.mp h
      subst e2
      exact h_attr (i1 _ _ e1) (base_ok c) G.room G.grd fun c k q => G.ct.attr _ _ _ (attrTab_ok q)
    · cases h
  · exact pe_joined1 (i1 _ _ h)
  · obtain ⟨ss, e1, e2⟩ := Option.map_eq_some_iff.mp h
    subst e2
    exact h_js rfl (list_ok i1 _ _ e1)
  · obtain ⟨x, e1, e2⟩ := Option.map_eq_some_iff.mp h
    subst e2
    exact h_fmt (i1 _ _ e1)
  · -- a method
    split at h
    · rename_i c
      simp only [Bool.and_eq_true, decide_eq_true_eq] at c
      split at h
      · rename_i g e1
        split at h
        · rename_i ns
          split at h
          · rename_i x y e2 e3
            cases h
            exact tm1_ok e1 (i1 _ _ e2) (i1 _ _ e3) (star_ok ns) (base_ok c.1.1) c.1.2
          · cases h
        · cases h
      split at h
      · rename_i x as ks kw e1 e2 e3
        cases h
        obtain ⟨j1, j2, j3, j4, j5⟩ := args_ok i1 _ as e2
        obtain ⟨k1, k2, k3, k4, k5⟩ := kws_ok i1 _ ks kw e3
        refine h_meth (i1 _ _ e1) (G.room.mono (Nat.le_succ _)) G.grd j1 k1 j2 k2 j3 (k3 _) (k4 _) j4 (by rw [j5, k5]; rfl) (meth_eval c.1.1 c.1.2 c.2 (j5 _) (k3 _)) fun c f src q => ?_
        obtain ⟨q1, q2⟩ := methTab_ok q
        exact G.ct.meth _ _ _ q1 _ _ _ q2
      · cases h
    · cases h
  · -- a new object
    split at h
    · rename_i c
      simp only [Bool.and_eq_true] at c
      obtain ⟨o1, _, o3⟩ := okName_1 c.1
      split at h
      · rename_i f as ks kw e1 e2 e3
        split at h
        · rename_i src e4
          cases h
          obtain ⟨j1, j2, j3, j4, j5⟩ := args_ok i1 _ as e2
          obtain ⟨k1, k2, k3, k4, k5⟩ := kws_ok i1 _ ks kw e3
          exact h_make (G.ct.make _ _ (lookup_mem e1) _ _ _ (findShape_ok _ _ _ _ _ e4)) G.room G.grd (G.gl c.2) j1 k1 j2 k2 j3 (k3 _) (k4 _) o1 j4 (by rw [j5, k5]; rfl)
        · cases h
      · cases h
    · cases h
  · cases h
theorem baseM_ok {a : Expr} {f : Str} {env : Env} (h : plainBaseM a = true) : attributeBase a f env (eval a env) = eval a env := base_ok (by
  unfold plainBaseM at h
  unfold plainBase
  exact h)
theorem disp_ok {X : Cx} {C : FEnv} {f : Expr → Option SE} (hf : ∀ e s, f e = some s → HE X C e s) : ∀ (es : List Expr) (s : SA), dispBy f es = some s → HA X C es s
  | [], s, h => by
    cases h
    exact h_anil
  | e :: es, s, h => by
    unfold dispBy at h
    split at h
    · rename_i ee
      cases ee
    · rename_i e0 p0 es1 ee
      cases ee
      split at h
      · rename_i a b e1 e2
        cases h
        exact h_astar (hf _ _ e1) (disp_ok hf _ _ e2)
      · cases h
    · rename_i e1 es1 hno ee
      cases ee
      split at h
      · rename_i ns
        split at h
        · rename_i a b e1 e2
          cases h
          exact h_acons (hf _ _ e1) (disp_ok hf _ _ e2) (star_ok ns)
        · cases h
      · cases h
theorem starTab_ok {mks : List (Str × Str)} {star : List Str} {c f : Str} (h : (starTab mks star).lookup c = some f) : (c, f) ∈ mks ∧ f ∈ star := by
  have := lookup_mem h
  unfold starTab at this
  obtain ⟨a, b⟩ := List.mem_filter.mp this
  exact ⟨a, List.contains_iff_mem.mp b⟩
theorem hasBy_ok {X : Cx} {cc : CC} {lv : Nat} {C : FEnv} (G : GE X cc lv C) {fE : CC → Expr → Option SE} (i1 : ∀ (e : Expr) (s : SE), fE cc e = some s → HE X C e s) {neg : Bool} {a : Expr} {c : Str} {s : SE} (h : hasBy cc fE neg a c = some s) :
    ∃ kvs sa, s = eUn (dHas kvs neg) sa ∧ DcOk X c kvs ∧ Gl X c ∧ (c == ("__debug__" : Str)) = false ∧ HE X C a sa := by
  unfold hasBy at h
  split at h
  · rename_i c1
    simp only [Bool.and_eq_true] at c1
    obtain ⟨o1, _, o3⟩ := okName_1 c1.1
    split at h
    · rename_i kvs sa e1 e2
      cases h
      exact ⟨kvs, sa, rfl, G.ct.dcs _ _ (lookup_mem e1), G.gl c1.2, o1, i1 _ _ e2⟩
    · cases h
  · cases h
theorem stepQ_ok {X : Cx} {cc : CC} {lv : Nat} {C : FEnv} (G : GE X cc lv C) (hb : noBlt cc.shapes = true) {fE : CC → Expr → Option SE} (i1 : ∀ (e : Expr) (s : SE), fE cc e = some s → HE X C e s) {e : Expr} {s : SE} (h : stepQ fE cc e = some s) : HE X C e s := by
  unfold stepQ at h
  split at h
  · obtain ⟨kvs, sa, rfl, a1, a2, a3, a4⟩ := hasBy_ok G i1 h
    exact h_has false a1 a2 a3 a4
  · obtain ⟨kvs, sa, rfl, a1, a2, a3, a4⟩ := hasBy_ok G i1 h
    exact h_has true a1 a2 a3 a4
  · split at h
    · rename_i i e0
      obtain ⟨sa, e1, rfl⟩ := Option.map_eq_some_iff.mp h
      refine h_makeVS (G.var e0) (fun c f q => ?_) G.room G.grd (i1 _ _ e1)
      obtain ⟨q1, q2⟩ := starTab_ok q
      exact G.ct.star _ _ q1 q2
    · cases h
  · split at h
    · rename_i c
      simp only [Bool.and_eq_true, decide_eq_true_eq] at c
      obtain ⟨⟨⟨c1, c2⟩, c3⟩, c4⟩ := c
      obtain ⟨o1, _, o3⟩ := okName_1 c1
      split at h
      · rename_i f ks sk e3 e2
        obtain ⟨src, e4, rfl⟩ := Option.map_eq_some_iff.mp h
        obtain ⟨k1, k2, k3, k4, k5⟩ := kws_ok i1 _ ks sk e2
        exact h_cmetK (G.ct.cms _ _ _ (look3_ok e3) _ _ _ (findShape_ok _ _ _ _ _ e4)) (G.room.mono (Nat.le_succ _)) G.grd (G.gl c2) o1 k1 k2 (k3 _) (k4 _) (by rw [k5]; rfl) (meth_eval rfl c3 (by simp only [List.length_nil, List.length_cons]; omega) rfl (k3 _))
      · cases h
    · cases h
  · split at h
    · obtain ⟨sa, e1, rfl⟩ := Option.map_eq_some_iff.mp h
      exact h_tupS (disp_ok i1 _ _ e1)
    · cases h
  · split at h
    · obtain ⟨sa, e1, rfl⟩ := Option.map_eq_some_iff.mp h
      exact h_lstS (disp_ok i1 _ _ e1)
    · cases h
  · split at h
    · rename_i c
      obtain ⟨rfl, rfl, c3, c4⟩ := c
      obtain ⟨sa, e1, rfl⟩ := Option.map_eq_some_iff.mp h
      obtain ⟨j1, j2, _, j3, j4⟩ := args_ok i1 _ _ e1
      exact h_listz G.calm (G.gl c3) (G.blt (x := "list") (by decide +kernel) fun n ks src => noBlt_ok hb (by decide +kernel) n ks src) (G.gl c4) (G.blt (x := "zip") (by decide +kernel) fun n ks src => noBlt_ok hb (by decide +kernel) n ks src) j1 (j3 _ _ rfl) (zip_any i1 e1) rfl rfl
    · cases h
  · cases h
theorem stepTQ_ok {X : Cx} {cc : CC} {lv : Nat} {C : FEnv} (G : GE X cc lv C) {fE : CC → Expr → Option SE} (i1 : ∀ (e : Expr) (s : SE), fE cc e = some s → HE X C e s) {e : Expr} {s : ST} (h : stepTQ fE cc e = some s) : HT X C e s := by
  unfold stepTQ at h
  split at h
  · obtain ⟨t, h2, h3⟩ := Option.map_eq_some_iff.mp h
    subst h3
    obtain ⟨kvs, sa, h4, a1, a2, a3, a4⟩ := hasBy_ok G i1 h2
    subst h4
    exact ht_has false a1 a2 a3 a4
  · obtain ⟨t, h2, h3⟩ := Option.map_eq_some_iff.mp h
    subst h3
    obtain ⟨kvs, sa, h4, a1, a2, a3, a4⟩ := hasBy_ok G i1 h2
    subst h4
    exact ht_has true a1 a2 a3 a4
  · cases h
theorem stars_ok {X : Cx} {C : FEnv} {f : Expr → Option SE} (hf : ∀ e s, f e = some s → HE X C e s) : ∀ (es : List Expr) (s : SA), starsBy f es = some s → HA X C es s
  | [], s, h => by
    cases h
    exact h_anil
  | e :: es, s, h => by
    unfold starsBy at h
    split at h
    · rename_i q; cases q
    · rename_i q
      cases q
      split at h
      · rename_i a b e1 e2
        cases h
        exact h_astar (hf _ _ e1) (stars_ok hf _ _ e2)
      · cases h
    · cases h
theorem stepM_ok {X : Cx} {cc : CC} {lv : Nat} {C : FEnv} (G : GE X cc lv C) {fE : CC → Expr → Option SE} (i1 : ∀ (e : Expr) (s : SE), fE cc e = some s → HE X C e s) {e : Expr} {s : SE} (h : stepM fE cc e = some s) : HE X C e s := by
  unfold stepM at h
  split at h
  · split at h
    · rename_i c
      simp only [Bool.and_eq_true] at c
      obtain ⟨o1, _, o3⟩ := okName_1 c.1
      split at h
      · rename_i f a b e1 e2 e3
        split at h
        · rename_i c2
          cases h
          have mk := G.ct.star _ _ (lookup_mem e1) (List.contains_iff_mem.mp c2)
          rename_i es _ _ _ _ _
          cases es with
          | nil =>
            cases e3
            exact h_makeS1 mk G.room G.grd (G.gl c.2) (i1 _ _ e2) o1
          | cons e' es => exact h_makeS mk G.room G.grd (G.gl c.2) (h_astar (i1 _ _ e2) (stars_ok i1 _ _ e3)) o1
        · cases h
      · cases h
    · cases h
  · split at h
    · rename_i g e0
      split at h
      · rename_i c
        simp only [Bool.and_eq_true] at c
        split at h
        · rename_i x y e1 e2
          cases h
          exact tl1_ok e0 (i1 _ _ e1) (i1 _ _ e2) (star_ok c.2) (baseM_ok c.1.1) c.1.2
        · cases h
      · cases h
    · cases h
  · cases h
theorem comp_ok (n : Nat) : ∀ (X : Cx) (cc : CC) (lv : Nat) (C : FEnv), GE X cc lv C → noBlt cc.shapes = true → (∀ (e : Expr) (s : SE), compE n cc e = some s → HE X C e s) ∧ (∀ (e : Expr) (s : ST), compT n cc e = some s → HT X C e s) := by
  induction n with
  | zero => exact fun X cc lv C G hb => ⟨fun e s h => by simp [compE] at h, fun e s h => by simp [compT] at h⟩
  | succ n ih =>
    intro X cc lv C G hb
    obtain ⟨i1, i2⟩ := ih X cc lv C G hb
    have nb : ∀ {x : Str}, bltNames.contains x = true → ∀ n ks src, (x, n, ks, src) ∉ cc.shapes := fun hx n ks src => noBlt_ok hb hx n ks src
    refine ⟨fun e s h => ?_, fun e s h => ?_⟩
    · unfold compE at h
      rcases orE_out h with h | h
      · exact stepQ_ok G hb i1 h
      rcases orE_out h with h | h
      · exact stepM_ok G i1 h
      rcases orE_out h with h | h
      · exact stepD_ok G i1 h
      rcases (orE_out h).symm with h | h
      · cases h; exact h_eBad
      rcases (orE_out h).symm with h | h
      · rcases (orE_out h).symm with h | h
        · exact stepN_ok G hb i1 i2 h
        · exact stepC_ok G hb i1 h
      unfold stepE at h
      split at h
      · cases h; exact h_int
      · cases h; exact h_bl
      · cases h; exact h_non
      · cases h; exact h_str
      · -- a name
        split at h
        · rename_i i e1
          cases h
          exact G.var e1
        · split at h
          · rename_i c
            simp only [Bool.and_eq_true] at c
            obtain ⟨t, e1, e2⟩ := Option.map_eq_some_iff.mp h
            subst e2
            obtain ⟨o1, _, o3⟩ := okName_1 c.1
            exact ty_ok G e1 (G.gl c.2) (nb (tyBy_mem e1)) o3 o1
          · cases h
      · split at h
        · rename_i g x y e1 e2 e3
          cases h
          exact mkBin_ok G e1 (i1 _ _ e2) (i1 _ _ e3)
        · cases h
      · obtain ⟨x, e1, e2⟩ := Option.map_eq_some_iff.mp h
        subst e2
        exact h_un bo_neg (i1 _ _ e1)
      · obtain ⟨x, e1, e2⟩ := Option.map_eq_some_iff.mp h
        subst e2
        exact h_not (i1 _ _ e1)
      · exact and_ok i1 _ _ h
      · exact or_ok i1 _ _ h
      · split at h
        · rename_i c
          split at h
          · rename_i g x y e1 e2 e3
            cases h
            exact (mkCmp_ok G e1 (i1 _ _ e2) (i1 _ _ e3) (noset_ok _ c)).1
          · cases h
        · cases h
      · split at h
        · rename_i c
          split at h
          · rename_i g k x y z e1 e2 e3 e4 e5
            cases h
            exact h_chn (cmpOf_bl e1) (cmpOf_ok G e1) (cmpOf_ok G e2) (i1 _ _ e3) (i1 _ _ e4) (i1 _ _ e5) (noset2_ok _ _ c)
          · cases h
        · cases h
      · split at h
        · rename_i t x y e1 e2 e3
          cases h
          exact h_if (i2 _ _ e1) (i1 _ _ e2) (i1 _ _ e3)
        · cases h
      · split at h
        · rename_i c
          obtain ⟨x, e1, e2⟩ := Option.map_eq_some_iff.mp h
          subst e2
          obtain ⟨j1, j2, _⟩ := args_ok i1 _ x e1
          exact h_tup j1 j2 (Nat.le_trans c (by decide))
        · cases h
      · split at h
        · rename_i c
          obtain ⟨x, e1, e2⟩ := Option.map_eq_some_iff.mp h
          subst e2
          obtain ⟨j1, j2, _⟩ := args_ok i1 _ x e1
          exact h_lst j1 j2 (Nat.le_trans c (by decide))
        · cases h
      · -- a call
        split at h
        · rename_i c
          simp only [Bool.and_eq_true] at c
          obtain ⟨o1, _, o3⟩ := okName_1 c.1
          have g := G.gl c.2
          split at h
          · rename_i as ks kw e1 e2
            obtain ⟨j1, j2, j3, j4, j5⟩ := args_ok i1 _ as e1
            obtain ⟨k1, k2, k3, k4, k5⟩ := kws_ok i1 _ ks kw e2
            split at h
            · rename_i src e3
              cases h
              exact h_call (G.call _ (findShape_ok _ _ _ _ _ e3)) (G.room.mono (Nat.le_succ _)) G.grd g j1 k1 j2 k2 j3 (k3 _) (k4 _) o1 j4 (by rw [j5, k5]; rfl)
            · split at h
              · cases h
                have j6 := j4 _ _ rfl
                refine mkBlt_ok G (by assumption) g (nb (bltOf_mem (by assumption))) j1 o3 o1 j6 ?_
                have := j5 ⟨0, 0, 0, 0⟩
                rw [j6] at this
                have any_pos : ∀ (p q : Pos) (l : List (Bool × Sem Value)), (backTo p l).any (·.1) = (backTo q l).any (·.1) := fun p q l => by
                  unfold backTo
                  rw [List.any_map, List.any_map]
                  rfl
                rw [any_pos _ ⟨0, 0, 0, 0⟩]
                exact this
              · cases h
          · cases h
        · cases h
      · split at h
        · rename_i x l k e1 e2 e3
          cases h
          exact h_sl (i1 _ _ e1) (part_ok i1 _ _ e2) (part_ok i1 _ _ e3)
        · cases h
      · split at h
        · rename_i c
          split at h
          · rename_i x y e1 e2
            cases h
            exact mkIx_ok G (i1 _ _ e1) (i1 _ _ e2) c
          · cases h
        · cases h
      · -- a comprehension
        simp only at h
        split at h
        · rename_i c
          split at h
          · rename_i it g t el e1 e2 e3 e4
            split at h
            · rename_i d
              cases h
              obtain ⟨w1, w2⟩ := iterT_ok G i1 (nb (by decide +kernel)) (nb (by decide +kernel)) (tg := _) e1
              refine pe_by (pe_lc G.calm G.nd w1 (blkOk_by (by rw [G.N, G.sc]; exact c)) (fun s H A cl fp => (tg_ok G.inBlk 8).1 _ _ e2) (fun s H A cl fp => ifs_ok0 (ih _ _ lv C G.inBlk hb).2 _ _ e3) (fun s H A cl fp => HE.x0 ((ih _ _ lv C G.inBlk hb).1 _ _ e4)) w2) fun s H Q q => rd_comp (fun i hi => ?_) q
              unfold inB at d
              have := List.all_eq_true.mp d i hi
              simpa using this
            · cases h
          · cases h
        · cases h
      · cases h
    · unfold compT at h
      cases hy : stepTQ (compE n) cc e with
      | some s' =>
        rw [hy] at h
        cases h
        exact stepTQ_ok G i1 hy
      | none =>
      rw [hy] at h
      cases hz : stepT (compE n) (compT n) cc e with
      | none => rw [hz] at h; cases h; exact h_tBad
      | some s' =>
      rw [hz] at h
      cases h
      replace h := hz
      clear hz
      unfold stepT at h
      split at h
      · obtain ⟨x, e1, e2⟩ := Option.map_eq_some_iff.mp h
        subst e2
        exact h_tnot (i2 _ _ e1)
      · exact (andT_ok i2 _ _ h).pt
      · exact (orT_ok i2 _ _ h).pt
      · split at h
        · rename_i c
          split at h
          · rename_i g x y e1 e2 e3
            cases h
            exact (mkCmp_ok G e1 (i1 _ _ e2) (i1 _ _ e3) (noset_ok _ c)).2
          · cases h
        · cases h
      · split at h
        · rename_i c
          split at h
          · rename_i g k x y z e1 e2 e3 e4 e5
            cases h
            exact tchn_ok (cmpOf_bl e1) (cmpOf_bl e2) (cmpOf_ok G e1) (cmpOf_ok G e2) (i1 _ _ e3) (i1 _ _ e4) (i1 _ _ e5) (noset2_ok _ _ c)
          · cases h
        · cases h
      · split at h
        · rename_i x y z e1 e2 e3
          cases h
          exact h_tif (i2 _ _ e1) (i2 _ _ e2) (i2 _ _ e3)
        · cases h
      · split at h
        · rename_i c
          obtain ⟨x, e1, e2⟩ := Option.map_eq_some_iff.mp h
          subst e2
          exact h_tru (i1 _ _ e1) (plainT_ok c)
        · cases h
end DS
namespace DS
open PySem L2 PyProof.Rows
structure GS (X : Cx) (cc : CC) (lv : Nat) (C : FEnv) : Prop extends GE X cc lv C where
  pass : PassesOwn (model X.prog X.w) X.A X.env X.xe
  kind : cc.sc.kind = .function
  allf : ∀ x, cc.fnc x = true
  nb : noBlt cc.shapes = true
section
variable {X : Cx} {cc : CC} {lv : Nat} {C : FEnv}
theorem frzAll_ok {a : Stmt} {s : SS} (h : HS X C a s) (N : List Str) : ∀ xs : List Str, HS X C a (frzAll N xs s)
  | [] => h
  | x :: xs => by
    unfold frzAll
    split
    · exact h_frz _ (frzAll_ok h N xs)
    · exact frzAll_ok h N xs
theorem frzBy_ok {a : Stmt} {s : SS} (h : HS X C a s) (cc : CC) (es : List Expr) : HS X C a (frzBy cc es s) := frzAll_ok h _ _
theorem swp_ok {env : Env} {ts vs : List Expr} {k k2 : Nat} {p p2 : Pos} {r : Option (List Str)} (hk : env.scope.kind = .function) (h : swp env.scope ts vs = some r) : swappedStores [.Tuple ts k p] (.Tuple vs k2 p2) env = pure r := by
  have hb : env.blockKind = .function := by
    unfold Env.blockKind
    rw [hk]
    rfl
  unfold swp at h
  unfold swappedStores
  simp only [pure_bind]
  have e1 : (env.blockKind != ScopeKind.function) = false := by rw [hb]; rfl
  rw [e1, Bool.or_false]
  split at h
  · rename_i c
    cases h
    exact if_pos c
  · rename_i c
    refine (if_neg c).trans ?_
    split at h
    · rename_i c2
      cases h
      exact if_pos c2
    · rename_i c2
      refine (if_neg c2).trans ?_
      simp only at h
      split at h
      · rename_i c3
        cases h
        exact if_pos c3
      · rename_i c3
        refine (if_neg c3).trans ?_
        split at h
        · rename_i c4
          cases h
          exact if_pos c4
        · rename_i c4
          refine (if_neg c4).trans ?_
          split at h
          · cases h
          · rename_i c5
            cases h
            exact if_neg c5
theorem asub_ok {a b : Expr} {p : Pos} {env : Env} (h : notSlice b = true) (v : Value) : assign (.Subscript a b p) env v = (do
      let ov ← holding [v] (eval a env)
      let iv ← holding [v, ov] (eval b env)
      standAt p
      holding [v, ov, iv] (setItem ov iv v)
      release [v, ov, iv] []) := by
  cases b <;> first | rfl | cases h
theorem sg_ok (G : GE X cc lv C) {f : Expr → Option SE} (hf : ∀ e s, f e = some s → HE X C e s) (n : Nat) : ∀ (e : Expr) (g : SG), sgBy cc f n e = some g → HG X C e g ∧ (∀ es, assignEach (e :: es) X.env = (false, assign e X.env) :: assignEach es X.env) := by
  intro e g h
  cases n with
  | zero => simp [sgBy] at h
  | succ n =>
    cases e with
    | Name x p =>
      simp only [sgBy] at h
      obtain ⟨t, e1, e2⟩ := Option.map_eq_some_iff.mp h
      subst e2
      exact ⟨h_tg ((tg_ok G (n + 1)).1 _ _ e1), fun _ => rfl⟩
    | Subscript a b p =>
      simp only [sgBy] at h
      split at h
      · rename_i ns
        split at h
        · rename_i x y e1 e2
          cases h
          exact ⟨h_gcell (hf _ _ e1) (hf _ _ e2) (asub_ok ns), fun _ => rfl⟩
        · cases h
      · cases h
    | _ => simp [sgBy] at h
theorem sgs_ok (G : GE X cc lv C) {f : Expr → Option SE} (hf : ∀ e s, f e = some s → HE X C e s) (n : Nat) : ∀ (es : List Expr) (gs : List SG), sgsBy cc f n es = some gs → HGs X C es gs ∧ (assignEach es X.env).length = gs.length ∧ (assignEach es X.env).findIdx? (·.1) = none
  | [], gs, h => by
    simp only [sgsBy, Option.some.injEq] at h
    subst h
    exact ⟨h_gsnil, rfl, rfl⟩
  | e :: es, gs, h => by
    simp only [sgsBy] at h
    split at h
    · rename_i a b e1 e2
      cases h
      obtain ⟨j1, j2, j3⟩ := sgs_ok G hf n es b e2
      obtain ⟨k1, k2⟩ := sg_ok G hf n e a e1
      refine ⟨h_gscons k1 j1 (k2 es), by rw [k2 es, List.length_cons, List.length_cons, j2], ?_⟩
      rw [k2 es, List.findIdx?_cons, j3]
      rfl
    · cases h
theorem stmts_ok {f : Stmt → Option SS} (hf : ∀ e s, f e = some s → HS X C e s) : ∀ (es : List Stmt) (s : SS), stmtsBy f es = some s → HSs X C es s
  | [], s, h => by cases h; exact h_snil
  | [e], s, h => h_sone (hf e s h)
  | e :: e' :: es, s, h => by
    unfold stmtsBy at h
    split at h
    · rename_i a b e1 e2
      cases h
      exact h_scons (hf e a e1) (stmts_ok hf (e' :: es) b e2)
    · cases h
theorem tg1_ok (G : GE X cc lv C) {x : Str} {p : Pos} {i : Nat} (h : tgBy cc 1 (.Name x p) = some (.nm i)) : X.N[i]? = some x ∧ Loc X.env.scope x ∧ (X.fn x = true ∨ X.env.scope.names.lookup x = some .local) := by
  simp only [tgBy] at h
  split at h
  · split at h
    · rename_i e0
      obtain ⟨j, e1, e2⟩ := Option.map_eq_some_iff.mp h
      cases e2
      have e0' : X.env.scope.names.lookup x = some .local := by rw [G.sc]; exact e0
      exact ⟨by rw [G.N]; exact posOf_ok e1, .inl e0', .inr e0'⟩
    · rename_i e0
      split at h
      · rename_i c
        obtain ⟨j, e1, e2⟩ := Option.map_eq_some_iff.mp h
        cases e2
        have e0' : X.env.scope.names.lookup x = some .cell := by rw [G.sc]; exact e0
        exact ⟨by rw [G.N]; exact posOf_ok e1, .inr e0', .inl (by rw [G.fn]; exact c)⟩
      · cases h
    · cases h
  · cases h
/-- x = e, whatever e is -/
theorem set_ok (n : Nat) (G : GS X cc lv C) {x : Str} {p pos : Pos} {i : Nat} {e : Expr} {s : SE} (h : tgBy cc 1 (.Name x p) = some (.nm i)) (he : compE n cc e = some s) : HS X C (.Assign [.Name x p] e pos) (sAsg s (gTg (.nm i))) := by
  obtain ⟨h1, h2, h3⟩ := tg1_ok G.toGE h
  have ih := comp_ok n X cc lv C G.toGE G.nb
  by_cases hc : notComp e = true
  · exact h_set G.nd h1 h2 (ih.1 e s he) (nocomp_ok hc) h3
  · cases n with
    | zero => simp [compE] at he
    | succ n =>
      obtain ⟨i1, i2⟩ := comp_ok n X cc lv C G.toGE G.nb
      have nbr := fun n ks src => noBlt_ok G.nb (x := "range") (by decide +kernel) n ks src
      have full := ih.1 e s he
      unfold compE at he
      rcases orE_out he with hd | he'
      · unfold stepQ at hd
        split at hd
        all_goals try (exact absurd rfl hc)
        cases hd
      replace he := he'
      clear he'
      rcases orE_out he with hd | he'
      · unfold stepM at hd
        split at hd
        all_goals try (exact absurd rfl hc)
        cases hd
      replace he := he'
      clear he'
      rcases orE_out he with hd | he'
      · unfold stepD at hd
        split at hd
        all_goals try (exact absurd rfl hc)
        cases hd
      replace he := he'
      have he0 := (orE_out he).symm
      clear he
      rcases he0 with he | he
      · cases he
        exact ps_by ps_never fun D s H ⟨o0, H0, o, r, st, q, h⟩ => h.elim
      have he0 := (orE_out he).symm
      clear he
      rcases he0 with he | he
      · rcases (orE_out he).symm with he | he
        · unfold stepN at he
          split at he
          all_goals try (exact absurd rfl hc)
          cases he
        · unfold stepC at he
          split at he
          all_goals try (exact absurd rfl hc)
          cases he
      unfold stepE at he
      split at he
      all_goals try (exact absurd rfl hc)
      rotate_left
      · cases he
      simp only at he
      split at he
      · rename_i c
        split at he
        · rename_i it g t el e1 e2 e3 e4
          split at he
          · rename_i d
            rename_i elt tg iter ifs scope pc _ _ _ _
            cases he
            by_cases sw : (X.env.blockKind == .function && X.env.kindOf x == some .local && p.line == pc.line && !(scope.names.any fun (n, k) => n == x && (k == .local || k == .cell))) = true
            · have hsw : swapsWith (.ListComp elt [⟨tg, iter, ifs, 0⟩] scope pc) (some (.Name x p)) pos.line X.env = pure true := by
                show (pure _ : Sem Bool) = _
                rw [← sw]
                rfl
              have loc : X.env.scope.names.lookup x = some .local := by
                simp only [Bool.and_eq_true] at sw
                have := sw.1.1.2
                unfold Env.kindOf at this
                simpa using this
              obtain ⟨w1, w2⟩ := iterT_ok G.toGE i1 nbr (fun n ks src => noBlt_ok G.nb (x := "zip") (by decide +kernel) n ks src) (tg := tg) e1
              refine ps_by (ps_setLc (te := tD X.K X0 (el C)) (tt := tDB X.K X0 (t C)) (g := tTg X.K g) G.calm G.nd h1 loc hsw w1 (blkOk_by (by rw [G.N, G.sc]; exact c)) (fun s H A cl fp => (tg_ok G.toGE.inBlk 8).1 _ _ e2) (fun s H A cl fp => ifs_ok0 (comp_ok n _ _ lv C G.toGE.inBlk G.nb).2 _ _ e3) (fun s H A cl fp => HE.x0 ((comp_ok n _ _ lv C G.toGE.inBlk G.nb).1 _ _ e4)) w2) fun D s H q => ?_
              obtain ⟨o0, H0, o, r, st, q, h⟩ := q
              refine rd_comp (C := C) (fun i hi => ?_) ⟨o, r, st, q.wd, q.loc, OutR.bx h q.x fun d0 st1 e5 h v o1 H1 w1 x1 r1 => h o1 _ H1 ((q.ext' w1 x1).put i r1) x1.sub⟩
              · unfold inB at d
                have := List.all_eq_true.mp d i hi
                simpa using this
            · refine h_set G.nd h1 h2 full ?_ h3
              show (pure _ : Sem Bool) = _
              rw [← Bool.eq_false_iff.mpr sw]
              rfl
          · cases he
        · cases he
      · cases he
theorem nosole_ok {t e : Expr} {l : Nat} {env : Env} (h : notComp e = true) : swapsWithSole [t] e l env = pure false := nocomp_ok h
theorem notup_ok {ts : List Expr} {k : Nat} {p : Pos} {e : Expr} {env : Env} (h : notTuple e = true) : swappedStores [.Tuple ts k p] e env = pure none := by
  cases e <;> first | rfl | cases h
theorem nosub_ok (a b e : Expr) (p : Pos) {env : Env} : swappedStores [.Subscript a b p] e env = pure none := rfl
theorem unStar_each {env : Env} : ∀ (ts : List Expr), lastStar ts = true → (assignEach ts env).map (·.2) = (assignEach (ts.map unStar) env).map (·.2) ∧ (assignEach ts env).length = ts.length ∧ (assignEach ts env).findIdx? (·.1) = some (ts.length - 1)
  | [], h => by cases h
  | [e], h => by
    cases e with
    | Starred t p =>
      refine ⟨?_, rfl, rfl⟩
      show [assign t env] = (assignEach [t] env).map (·.2)
      cases t <;> first | rfl | cases h
    | _ => cases h
  | e :: e' :: es, h => by
    unfold lastStar at h
    simp only [Bool.and_eq_true, Bool.not_eq_true'] at h
    obtain ⟨i1, i2, i3⟩ := unStar_each (env := env) (e' :: es) h.2
    have hs : ∀ l : List Expr, assignEach (e :: l) env = (false, assign e env) :: assignEach l env := fun l => by
      cases e <;> first | rfl | cases h.1
    have hu : unStar e = e := by cases e <;> first | rfl | cases h.1
    refine ⟨?_, ?_, ?_⟩
    · rw [hs, List.map_cons, List.map_cons, hu, hs, List.map_cons, i1]
    · rw [hs, List.length_cons, i2]; rfl
    · rw [hs, List.findIdx?_cons, i3]
      show some (_ + 1) = _
      congr 1
theorem stepX_ok (G : GS X cc lv C) {fE : CC → Expr → Option SE} {fS : CC → Stmt → Option SS} (i1 : ∀ (e : Expr) (s : SE), fE cc e = some s → HE X C e s) (i3 : ∀ (e : Stmt) (s : SS), fS cc e = some s → HS X C e s) {e : Stmt} {s : SS} (h : stepX fE fS cc e = some s) : HS X C e s := by
  unfold stepX at h
  split at h
  · split at h
    · rename_i c
      simp only [Bool.and_eq_true] at c
      obtain ⟨o1, _, o3⟩ := okName_1 c.1.1
      split at h
      · rename_i f s' e1 e2
        cases h
        refine frzBy_ok (h_raise (G.ct.xcs _ _ (lookup_mem e1)) ?_ G.calm (G.gl c.1.2) o1 (i1 _ _ e2) (star_ok c.2)) _ _
        exact G.room2.mono (by omega)
      · cases h
    · cases h
  · rename_i ts k p e' pos
    split at h
    · rename_i c
      simp only [Bool.and_eq_true] at c
      split at h
      · rename_i v tg e1 e2
        cases h
        obtain ⟨u1, u2, u3⟩ := unStar_each (env := X.env) ts c.1.1
        obtain ⟨a1, a2, a3⟩ := (tg_ok G.toGE 8).2 _ _ e2
        have hl : tg.length = ts.length := by
          rw [← a2]
          have := congrArg List.length u1
          rw [List.length_map, List.length_map] at this
          rw [← this, u2]
        refine frzBy_ok (h_asg (i1 _ _ e1) (h_gstar G.calm a1 u1 (by rw [u2, hl]) (by rw [u3, hl])) (nosole_ok c.2) (notup_ok c.1.2) rfl) _ _
      · cases h
    · cases h
  · split at h
    · rename_i c
      obtain ⟨rfl, c⟩ := c
      split at h
      · rename_i as g s' e1 e2 e3
        cases h
        obtain ⟨j1, j2, _, j3, _⟩ := args_ok i1 _ _ e1
        have nbe := fun n ks src => noBlt_ok G.nb (x := "enumerate") (by decide +kernel) n ks src
        exact frzBy_ok (h_for G.pass G.calm (h_enum (G.gl c) (G.toGE.blt (x := "enumerate") (by decide +kernel) nbe) j1 j2 (j3 _ _ rfl)) ((tg_ok G.toGE 8).1 _ _ e2) (stmts_ok i3 _ _ e3) (fun x => fold_ok rfl x)) _ _
      · cases h
    · cases h
  · cases h
theorem stmt_ok (n : Nat) : ∀ (X : Cx) (cc : CC) (lv : Nat) (C : FEnv), GS X cc lv C → ∀ (e : Stmt) (s : SS), compS n cc e = some s → HS X C e s := by
  induction n with
  | zero => exact fun X cc lv C G e s h => by simp [compS] at h
  | succ n ih =>
    intro X cc lv C G e s h
    have i3 := ih X cc lv C G
    obtain ⟨i1, i2⟩ := comp_ok n X cc lv C G.toGE G.nb
    have nbr := fun n ks src => noBlt_ok G.nb (x := "range") (by decide +kernel) n ks src
    unfold compS at h
    cases hx : stepX (compE n) (compS n) cc e with
    | some s' =>
      rw [hx] at h
      cases h
      exact stepX_ok G i1 i3 hx
    | none =>
    rw [hx] at h
    cases hz : stepS (compE n) (compT n) (compS n) cc e with
    | none => rw [hz] at h; cases h; exact h_never
    | some s' =>
    rw [hz] at h
    cases h
    replace h := hz
    clear hz hx
    unfold stepS at h
    split at h
    · -- return
      split at h
      · split at h
        · rename_i c
          obtain ⟨a, e1, e2⟩ := Option.map_eq_some_iff.mp h
          subst e2
          obtain ⟨j1, j2, _⟩ := args_ok i1 _ a e1
          exact h_ret (h_cell j1 j2 (Nat.le_trans c (by decide)))
        · cases h
      · obtain ⟨a, e1, e2⟩ := Option.map_eq_some_iff.mp h
        subst e2
        exact frzBy_ok (h_ret (i1 _ _ e1)) _ _
    · -- append
      split at h
      · rename_i c
        obtain ⟨rfl, c2, c3, c4⟩ := c
        split at h
        · rename_i i a e1 e2
          cases h
          unfold varOf at e1
          split at e1
          · rename_i d
            simp only [Bool.and_eq_true] at d
            obtain ⟨o1, o2, _⟩ := okName_1 d.1
            exact frzAll_ok (h_app (by rw [G.N]; exact posOf_ok e1) (by rw [G.sc]; exact vis_ok d.2) o1 o2 (i1 _ _ e2) (star_ok c4) c3) _ _
          · cases e1
        · cases h
      · cases h
    · split at h
      · rename_i c
        obtain ⟨a, e1, e2⟩ := Option.map_eq_some_iff.mp h
        subst e2
        exact frzBy_ok (h_exp (i1 _ _ e1) (nocomp_ok c)) _ _
      · cases h
    · -- a name
      split at h
      · rename_i i e0
        split at h
        · split at h
          · rename_i c
            obtain ⟨a, e1, e2⟩ := Option.map_eq_some_iff.mp h
            subst e2
            obtain ⟨h1, h2, h3⟩ := tg1_ok G.toGE e0
            obtain ⟨j1, j2, _⟩ := args_ok i1 _ a e1
            exact frzAll_ok (h_own G.nd h1 h2 j1 j2 (Nat.le_trans c (by decide)) h3) _ _
          · cases h
        · split at h
          · rename_i x y e1 e2
            cases h
            obtain ⟨h1, h2, h3⟩ := tg1_ok G.toGE e0
            exact frzBy_ok (h_ownA G.nd h1 h2 (i1 _ _ e1) (i1 _ _ e2) h3) _ _
          · cases h
        · obtain ⟨a, e1, e2⟩ := Option.map_eq_some_iff.mp h
          subst e2
          exact frzBy_ok (set_ok n G e0 e1) _ _
      · cases h
    · -- tuples
      split at h
      · rename_i names es
        split at h
        · split at h
          · rename_i i j as e1 e2 e3
            split at h
            · rename_i c
              obtain ⟨rfl, c2, c3, c4⟩ := c
              cases h
              obtain ⟨j1, j2, _⟩ := args_ok i1 _ as e3
              refine frzBy_ok (h_par G.calm G.nd (by rw [G.N]; exact posOf_ok e1) (by rw [G.N]; exact posOf_ok e2) c2 (by rw [G.sc]; exact c3) (by rw [G.sc]; exact c4) j1 (swp_ok (by rw [G.sc]; exact G.kind) (by rw [G.sc]; exact es)) rfl) _ _
            · cases h
          · cases h
        · split at h
          · rename_i i j l as e1 e2 e2' e3
            split at h
            · rename_i c
              obtain ⟨rfl, c2, c2', c2'', c3, c4, c5⟩ := c
              cases h
              obtain ⟨j1, j2, _⟩ := args_ok i1 _ as e3
              refine frzBy_ok (h_par3 G.calm G.nd (by rw [G.N]; exact posOf_ok e1) (by rw [G.N]; exact posOf_ok e2) (by rw [G.N]; exact posOf_ok e2') c2 c2' c2'' (by rw [G.sc]; exact c3) (by rw [G.sc]; exact c4) (by rw [G.sc]; exact c5) j1 (swp_ok (by rw [G.sc]; exact G.kind) (by rw [G.sc]; exact es)) rfl) _ _
            · cases h
          · cases h
        · cases h
      · rename_i es
        split at h
        · rename_i c
          split at h
          · rename_i a g e1 e2
            cases h
            obtain ⟨j1, j2, _⟩ := args_ok i1 _ a e1
            obtain ⟨k1, k2, k3⟩ := sgs_ok G.toGE i1 8 _ g e2
            exact frzBy_ok (h_asg (h_tup j1 j2 (Nat.le_trans c (by decide))) (h_gstup G.calm k1 k2 k3) rfl (swp_ok (by rw [G.sc]; exact G.kind) (by rw [G.sc]; exact es)) rfl) _ _
          · cases h
        · cases h
      · cases h
    · split at h
      · rename_i c
        simp only [Bool.and_eq_true] at c
        split at h
        · rename_i v g e1 e2
          cases h
          obtain ⟨k1, k2, k3⟩ := sgs_ok G.toGE i1 8 _ g e2
          exact frzBy_ok (h_asg (i1 _ _ e1) (h_gstup G.calm k1 k2 k3) (nosole_ok c.2) (notup_ok c.1) rfl) _ _
        · cases h
      · cases h
    · split at h
      · rename_i c
        simp only [Bool.and_eq_true] at c
        split at h
        · rename_i x y v e1 e2 e3
          cases h
          exact frzBy_ok (h_asg (i1 _ _ e3) (h_gcell (i1 _ _ e1) (i1 _ _ e2) (asub_ok c.1)) (nosole_ok c.2) (nosub_ok _ _ _ _) rfl) _ _
        · cases h
      · cases h
    · -- an attribute is stored
      split at h
      · rename_i c
        split at h
        · rename_i x v e1 e2
          cases h
          exact frzBy_ok (h_sfld (i1 _ _ e1) (i1 _ _ e2) (nocomp_ok c) fun c q => G.ct.attr _ _ _ (attrTab_ok q)) _ _
        · cases h
      · cases h
    · split at h
      · rename_i t x y e1 e2 e3
        cases h
        exact frzBy_ok (h_sif (i2 _ _ e1) (stmts_ok i3 _ _ e2) (stmts_ok i3 _ _ e3)) _ _
      · cases h
    · split at h
      · rename_i it g x e1 e2 e3
        cases h
        obtain ⟨w1, w2⟩ := iterT_ok G.toGE i1 nbr (fun n ks src => noBlt_ok G.nb (x := "zip") (by decide +kernel) n ks src) (tg := _) e1
        exact frzBy_ok (h_for G.pass G.calm w1 ((tg_ok G.toGE 8).1 _ _ e2) (stmts_ok i3 _ _ e3) w2) _ _
      · cases h
    · split at h
      · rename_i t x e1 e2
        cases h
        exact h_whl G.pass (i2 _ _ e1) (stmts_ok i3 _ _ e2)
      · cases h
    · cases h; exact h_pass
    · cases h; exact h_brk
    · cases h; exact h_cnt
    · cases h
end
end DS
namespace DS
open PySem L2 PyProof.Rows
/-! ## the whole text -/
/-- the j-th statement of a class -/
def memS (s : Stmt) (j : Nat) : Stmt := match s with
  | .ClassDef _ _ _ b _ _ _ _ _ _ _ => b.getD j (.Pass ⟨0, 0, 0, 0⟩)
  | _ => .Pass ⟨0, 0, 0, 0⟩
/-- one def: its text, its names (parameters first), the lists of its own, its meaning; whether its last parameter is starred -/
structure DefI where
  d : He.DefD
  ps : List Str
  N : List Str
  own : List Str := []
  cel : Bool := false
  star : Bool := false
  ops : Bool := false
  ss : SS
  key : Str := d.qual
/-- where a def stands: also behind a property, a classmethod, a staticmethod -/
def recF (K : PySem.W.Frag) (a : Addr) : Addr := match K.lookup a with
  | some ⟨.type _, _, .fields vs, _⟩ => (match vs.toList with
    | (.ref g) :: _ => g
    | _ => a)
  | _ => a
def fX (K : PySem.W.Frag) (p : Str × Option Str) : Addr := match p.2 with
  | none => He.ga K p.1
  | some m => recF K (He.ma K (He.ga K p.1) m)
def fnX (K : PySem.W.Frag) (p : Str × Option Str) : He.FnW := match K.lookup (fX K p) with
  | some ⟨_, _, .func fd, _⟩ => some (fd.name, fd.qualname, fd.params, fd.body, fd.scope, fd.globals, fd.closure, fd.builtins)
  | _ => none
def okX (K : PySem.W.Frag) (d : He.DefD) : Bool := PySem.W.keepIn K (.ref (fX K d.at_)) && (match K.lookup (fX K d.at_) with
  | some ⟨_, _, .func fd, _⟩ => PySem.W.codeIn K fd.code d.qual && (He.dflB K fd.defaults (d.dvs K) && He.kwdB K fd.kwdefaults (d.kws K))
  | _ => false)
theorem funX {K : PySem.W.Frag} {d : He.DefD} (e : fnX K d.at_ = d.val) (c : okX K d = true) : ∃ fd, FunD K d.name d.qual d.params d.body d.scope (d.dvs K) (d.kws K) (fX K d.at_) fd := by
  obtain ⟨kp, c2⟩ := He.ba c
  unfold fnX at e
  generalize fX K d.at_ = a at *
  split at e
  · rename_i oc od fd osl q
    rw [q] at c2
    obtain ⟨n1, n2, n3, n4, n5, n6, n7, n8, n9, n10, n11, n12, n13, n14, n15⟩ := fd
    unfold He.DefD.val at e
    simp only [Option.some.injEq, Prod.mk.injEq] at e
    obtain ⟨h1, h2, h3, h4, h5, h6, h7, h8⟩ := e
    subst h1 h2 h3 h4 h5 h6 h7 h8
    simp only at c2
    obtain ⟨k1, k2⟩ := He.ba c2
    obtain ⟨k3, k4⟩ := He.ba k2
    exact ⟨_, ⟨oc, od, n8, n9, n10, n11, n12, n13, n14, osl, rfl, q, k1, He.dflB_ok k3, He.kwdB_ok k4⟩, kp⟩
  · cases e
/-- the meanings, by depth -/
def sem (tab : List (Str × Nat × SS)) : Nat → FEnv
  | 0 => fun _ _ _ => .bad
  | n + 1 => fun f ds st => match tab.lookup f with
    | some (k, s) => body k s (sem tab n) ds st
    | none => .bad
def rowOf (i : DefI) : Str × Nat × SS := (i.key, i.N.length, i.ss)
def ccOf (sh : List Shape) (ct : CT) (i : DefI) : CC := { N := i.N, sc := i.d.scope, fnc := fun _ => true, shapes := sh, own := i.own, cel := i.cel, ct := ct, ops := i.ops }
def fsB (N P : List Str) (sc : Scope) : Bool := (match sc.kind with
  | .function => true
  | _ => false) && (!sc.isCoroutine && (!sc.isGenerator && (decide N.Nodup && (decide (N.take P.length = P) && ((P.all fun x => match sc.names.lookup x with
    | some .local => true
    | some .cell => true
    | _ => false) && sc.names.all fun y => match y.2 with
      | .free => false
      | _ => true)))))
theorem fsB_ok {N P : List Str} {sc : Scope} (h : fsB N P sc = true) : FnScope N P sc := by
  unfold fsB at h
  simp only [Bool.and_eq_true, Bool.not_eq_true', decide_eq_true_eq, List.all_eq_true] at h
  obtain ⟨h1, h2, h3, h4, h5, h6, h7⟩ := h
  refine ⟨?_, h2, h3, h4, h5, fun x hx => ?_, fun y hy e => ?_⟩
  · split at h1
    · assumption
    · cases h1
  · have := h6 x hx
    split at this
    · exact .inl (by assumption)
    · exact .inr (by assumption)
    · cases this
  · have := h7 y hy
    rw [e] at this
    cases this
/-- how a call binds -/
def BindOk (d : He.DefD) (ps : List Str) (n : Nat) (ks : List Str) (src : List Src) : Prop := ∀ (K : PySem.W.Frag) (f : Addr) (fd : FuncData), FunD K d.name d.qual d.params d.body d.scope (d.dvs K) (d.kws K) f fd → src.length = ps.length ∧ ∃ dv : List Value,
  (∀ (s : Shared) (us ws : List Value), K.In s.heap → us.length = n → ws.length = ks.length → BindsTo s fd ⟨us, ks.zip ws⟩ (ps.zip (src.map (pickU us ws dv)))) ∧ (∀ k e, Src.dfl k e ∈ src → ∃ v, RelV v (dv.getD k .none) ∧ ∀ o, Rep K o v e)
theorem bind0 {d : He.DefD} {ps : List Str} {n : Nat} {ks : List Str} {src : List Src} (hd : d.dfl = []) (hl : src.length = ps.length) (hs : ∀ k e, Src.dfl k e ∉ src)
    (h : ∀ (kV doc pm : Value) (an : Option Addr) (cdv ct : Value) (us ws : List Value), us.length = n → ws.length = ks.length → bindArgs (PySem.W.fnOf d.name d.qual d.params d.body d.scope .none kV doc pm an cdv ct) ⟨us, ks.zip ws⟩ = pure (ps.zip (src.map (pickU us ws [])))) : BindOk d ps n ks src := fun K f fd F => by
  refine ⟨hl, [], fun s us ws _ l1 l2 => ?_, fun k e hm => absurd hm (hs k e)⟩
  obtain ⟨oc, od, dV, kV, doc, pm, an, cdv, ct, osl, rfl, lk, hcd, hD, hK⟩ := F.ex
  have e0 : d.dvs K = [] := by unfold He.DefD.dvs; rw [hd]; rfl
  rcases hD with ⟨_, rfl⟩ | ⟨e, _⟩
  · exact .of_eq (h kV doc pm an cdv ct us ws l1 l2)
  · exact absurd e0 e
/-- .. with defaults -/
theorem bindD {d : He.DefD} {ps : List Str} {n : Nat} {ks : List Str} {src : List Src} (hd : d.dfl ≠ []) (hl : src.length = ps.length)
    (hs : ∀ (K : PySem.W.Frag) k e, Src.dfl k e ∈ src → ∃ v, (d.dvs K)[k]? = some v ∧ ∀ o, Rep K o v e)
    (h : ∀ (T : Addr) (kV doc pm : Value) (an : Option Addr) (cdv ct : Value) (us ws its : List Value), us.length = n → ws.length = ks.length → its.length = d.dfl.length →
      ∃ k, bindArgs (PySem.W.fnOf d.name d.qual d.params d.body d.scope (.ref T) kV doc pm an cdv ct) ⟨us, ks.zip ws⟩ = seqItems? (.ref T) >>= k ∧ k (some its.toArray) = pure (ps.zip (src.map (pickU us ws its)))) : BindOk d ps n ks src := fun K f fd F => by
  obtain ⟨oc, od, dV, kV, doc, pm, an, cdv, ct, osl, rfl, lk, hcd, hD, hK⟩ := F.ex
  have ne : d.dvs K ≠ [] := by
    unfold He.DefD.dvs
    cases e : d.dfl with
    | nil => exact absurd e hd
    | cons _ _ => simp
  rcases hD with ⟨e, _⟩ | ⟨_, T, o, its, m, rfl, lT, oT, rT⟩
  · exact absurd e ne
  · refine ⟨hl, its, fun s us ws X l1 l2 => ?_, fun k e hm => ?_⟩
    · have l3 : its.length = d.dfl.length := by
        rw [← rT.length]
        unfold He.DefD.dvs
        rw [List.length_map]
      obtain ⟨k, e1, e2⟩ := h T kV doc pm an cdv ct us ws its l1 l2 l3
      refine BindsTo.of_looks fun M => ?_
      rw [e1]
      exact looks_items X lT oT (.of_pure e2)
    · obtain ⟨v, e1, e2⟩ := hs K k e hm
      obtain ⟨u, e3, e4⟩ := rT.get e1
      exact ⟨v, by rw [List.getD_eq_getElem?_getD, e3]; exact e4, e2⟩
/-- .. with keyword-only defaults; ms: those that lack -/
theorem bindK {d : He.DefD} {ps : List Str} {n : Nat} {ks : List Str} {src : List Src} (ms : List (Str × He.Dv)) (hd : d.dfl = []) (hk : d.kwd ≠ []) (hms : ∀ q ∈ ms, q ∈ d.kwd) (hl : src.length = ps.length)
    (hs : ∀ (K : PySem.W.Frag) k e, Src.dfl k e ∈ src → ∃ v, (ms.map fun q => q.2.v K)[k]? = some v ∧ ∀ o, Rep K o v e)
    (h : ∀ (D : Addr) (doc pm : Value) (an : Option Addr) (cdv ct : Value) (us ws mv : List Value), us.length = n → ws.length = ks.length → mv.length = ms.length →
      KwChain D ((ms.map (·.1)).zip mv) (bindArgs (PySem.W.fnOf d.name d.qual d.params d.body d.scope .none (.ref D) doc pm an cdv ct) ⟨us, ks.zip ws⟩) (ps.zip (src.map (pickU us ws mv)))) : BindOk d ps n ks src := fun K f fd F => by
  obtain ⟨oc, od, dV, kV, doc, pm, an, cdv, ct, osl, rfl, lk, hcd, hD, hK⟩ := F.ex
  have e0 : d.dvs K = [] := by unfold He.DefD.dvs; rw [hd]; rfl
  rcases hD with ⟨_, rfl⟩ | ⟨e, _⟩
  · rcases hK with e | ⟨D, rfl, hq⟩
    · unfold He.DefD.kws at e
      exact absurd (List.map_eq_nil_iff.mp e) hk
    · have hq' : ∀ q ∈ ms.map (fun q => (q.1, q.2.v K)), ∃ u, PySem.W.nsIn K D q.1 = some (some u) ∧ RelV q.2 u := fun q hm => by
        obtain ⟨z, hz, rfl⟩ := List.mem_map.mp hm
        exact hq _ (List.mem_map.mpr ⟨z, hms z hz, rfl⟩)
      obtain ⟨mv, ml, rk, hks⟩ := kwd_vals hq'
      have e1 : (ms.map (fun q => (q.1, q.2.v K))).map (·.1) = ms.map (·.1) := by rw [List.map_map]; rfl
      have e2 : (ms.map (fun q => (q.1, q.2.v K))).map (·.2) = ms.map fun q => q.2.v K := by rw [List.map_map]; rfl
      rw [e1] at hks
      rw [e2] at rk
      rw [List.length_map] at ml
      refine ⟨hl, mv, fun s us ws X l1 l2 => BindsTo.of_looks fun M => KwChain.looks X hks (h D doc pm an cdv ct us ws mv l1 l2 ml), fun k e hm => ?_⟩
      obtain ⟨v, a1, a2⟩ := hs K k e hm
      obtain ⟨u, a3, a4⟩ := rk.get a1
      exact ⟨v, by rw [List.getD_eq_getElem?_getD, a3]; exact a4, a2⟩
  · exact absurd e0 e
/-- .. of a def with a starred parameter -/
def StarOk (d : He.DefD) (ps : List Str) (n : Nat) (ks : List Str) (src : List Src) : Prop := ∃ p0 pv, ps = p0 ++ [pv] ∧ ks = [] ∧ p0.length ≤ n ∧ n ≤ 1000 ∧ (∀ ds : List D, ds.length = n → src.map (pickD ds []) = ds.take p0.length ++ [.tup (ds.drop p0.length)]) ∧ d.dfl = [] ∧
  ∀ (kV doc pm : Value) (an : Option Addr) (cdv ct : Value) (us rest : List Value), us.length = p0.length → rest.length = n - p0.length → bindArgs (PySem.W.fnOf d.name d.qual d.params d.body d.scope .none kV doc pm an cdv ct) ⟨us ++ rest, []⟩ = (newTuple rest >>= fun t => pure (p0.zip us ++ [(pv, t)]))
def BindAny (i : DefI) (n : Nat) (ks : List Str) (src : List Src) : Prop := (i.star = false ∧ noStar src = true ∧ BindOk i.d i.ps n ks src) ∨ (i.star = true ∧ StarOk i.d i.ps n ks src)
/-- __init__ of an exception: self.f = x -/
def InitOk (i : DefI) (f : Str) : Prop := ∃ s x p1 p2 p3 p4, i.ps = [s, x] ∧ i.N = [s, x] ∧ i.d.dfl = [] ∧ i.d.body = [.Assign [.Attribute (.Name s p1) f p2] (.Name x p3) p4] ∧
  ((s == ("__debug__" : Str)) = false ∧ (s == ("__classdict__" : Str)) = false) ∧ ((x == ("__debug__" : Str)) = false ∧ (x == ("__classdict__" : Str)) = false) ∧
  ∀ (kV doc pm : Value) (an : Option Addr) (cdv ct : Value) (us : List Value), us.length = 2 → bindArgs (PySem.W.fnOf i.d.name i.d.qual i.d.params i.d.body i.d.scope .none kV doc pm an cdv ct) ⟨us, []⟩ = pure ([s, x].zip us)
/-- what is asked of the text: every def is what its meaning says, every call binds -/
structure TextOk (defs : List DefI) (sh : List Shape) (ct : CT) (free : List Str) : Prop where
  fs : ∀ i ∈ defs, fsB i.N i.ps i.d.scope = true
  cp : ∀ i ∈ defs, stmtsBy (compS 60 (ccOf sh ct i)) i.d.body = some i.ss
  lk : ∀ i ∈ defs, (defs.map rowOf).lookup i.key = some (i.N.length, i.ss)
  nb : noBlt sh = true
  bind : ∀ s ∈ sh, ∃ i ∈ defs, i.key = s.1 ∧ i.d.at_ = (s.1, none) ∧ BindAny i s.2.1 s.2.2.1 s.2.2.2
  mbind : ∀ s ∈ ct.msh, ∃ i ∈ defs, i.key = s.1 ∧ BindAny i s.2.1 s.2.2.1 s.2.2.2
  fr : ∀ x ∈ bltNames, x ∈ free
  stars : ∀ f ∈ ct.star, ∃ i ∈ defs, i.key = f ∧ ∀ n, n ≤ 60 → BindAny i (n + 1) [] [.pos 0, .star 1]
  xin : ∀ z ∈ ct.xcs, ∃ i ∈ defs, i.d.at_ = (z.1, some ("__init__" : Str)) ∧ InitOk i z.2
/-- where the def with this name stands -/
def atOf : List DefI → Str → Str × Option Str
  | [], f => (f, none)
  | i :: r, f => if i.key = f then i.d.at_ else atOf r f
/-- a constant dict of the module -/
def DictK (w : World) (K : PySem.W.Frag) (a : Addr) (kvs : List (Str × D)) : Prop := ∃ (o : Obj) (es : Array DictEntry) (ep : Nat), K.lookup a = some o ∧ o.ExactDict ∧ o.data = .dict es ep ∧ (∀ e ∈ es, ∃ k t, e.key = .str k t ∧ e.hash = hashStr w k) ∧
  (∀ k d, kvs.lookup k = some d → ∃ u v, findBy Value.isStrOf es k = some u ∧ RelV v u ∧ ∀ o, Rep K o v d) ∧ (∀ k, kvs.lookup k = none → findBy Value.isStrOf es k = none) ∧ (a == sysModules) = false
theorem DictK.mapOf {P : Program} {w : World} {K : PySem.W.Frag} {a : Addr} {kvs : List (Str × D)} (h : DictK w K a kvs) : ∃ f : Str → Option Value, (∀ hp : Heap, K.In hp → hp.MapOf (strKind P w) a f) ∧ (∀ k d, kvs.lookup k = some d → ∃ u v, f k = some u ∧ RelV v u ∧ ∀ o, Rep K o v d) ∧ (∀ k, kvs.lookup k = none → f k = none) ∧ (a == sysModules) = false := by
  obtain ⟨o, es, ep, h1, h2, h3, h4, h5⟩ := h
  refine ⟨findBy Value.isStrOf es, fun hp X => ⟨o, es, ep, X _ _ h1, h2, h3, fun e he => ?_, fun k => rfl⟩, h5⟩
  obtain ⟨k, t, e1, e2⟩ := h4 e he
  refine ⟨k, ?_, e2⟩
  show Value.isStrOf k e.key = true
  rw [e1]
  simp [Value.isStrOf]
/-- what is asked of the written part -/
structure KOk (w : World) (K : PySem.W.Frag) (mg : Str → Option Value) (defs : List DefI) (ct : CT) : Prop where
  fn : ∀ i ∈ defs, ∃ fd, FunD K i.d.name i.d.qual i.d.params i.d.body i.d.scope (i.d.dvs K) (i.d.kws K) (fX K i.d.at_) fd
  glo : ∀ i ∈ defs, i.d.at_.2 = none → mg i.d.at_.1 = some (.ref (fX K i.d.at_))
  ats : ∀ i ∈ defs, atOf defs i.key = i.d.at_
  fld : ∀ f c, (f, c, AK.fld) ∈ ct.attrs → Cls K (He.ga K c) ∧ NoAttr K (He.ga K c) f
  con : ∀ f c d, (f, c, AK.con d) ∈ ct.attrs → Cls K (He.ga K c) ∧ ∃ v u, Con K (He.ga K c) f v u ∧ ∀ o, Rep K o v d
  prop : ∀ f c g, (f, c, AK.prop g) ∈ ct.attrs → Cls K (He.ga K c) ∧ (∃ p, PropOf K (He.ga K c) f p (fX K (atOf defs g))) ∧ (g, 1, [], [Src.pos 0]) ∈ ct.msh
  meth : ∀ m c f, (m, c, f) ∈ ct.meths → Cls K (He.ga K c) ∧ Meth K (He.ga K c) m (fX K (atOf defs f))
  make : ∀ c f, (c, f) ∈ ct.mks → mg c = some (.ref (He.ga K c)) ∧ Mk K (He.ga K c) (fX K (atOf defs f))
  cons : ∀ x d, (x, d) ∈ ct.cons → ∃ v u, mg x = some u ∧ RelV v u ∧ ∀ o, Rep K o v d
  isi : IsiOk K ct.anc
  cls : ∀ c l, (c, l) ∈ ct.anc → mg c = some (.ref (He.ga K c))
  ops : ∀ m c f, (m, c, f) ∈ ct.meths → opsB K ct.anc m c = true
  mk0 : ∀ c, c ∈ ct.mk0 → mg c = some (.ref (He.ga K c)) ∧ Mk0 K (He.ga K c)
  cfs : ∀ c m f, (c, m, f) ∈ ct.cfs → mg c = some (.ref (He.ga K c)) ∧ ∃ mc, ClX.CRead K (He.ga K c) mc ∧ ClsFn K (He.ga K c) mc m (fX K (atOf defs f)) ∧ PySem.W.keepIn K (.ref (fX K (atOf defs f))) = true
  cms : ∀ c m f, (c, m, f) ∈ ct.cms → mg c = some (.ref (He.ga K c)) ∧ ∃ mc p, ClX.CRead K (He.ga K c) mc ∧ ClX.CMet K (He.ga K c) mc m p (fX K (atOf defs f))
  ccs : ∀ c f d, (c, f, d) ∈ ct.ccs → mg c = some (.ref (He.ga K c)) ∧ ∃ mc v u, ClX.CRead K (He.ga K c) mc ∧ ClX.CVal K (He.ga K c) mc f v u ∧ ∀ o, Rep K o v d
  dcs : ∀ c kvs, (c, kvs) ∈ ct.dcs → mg c = some (.ref (He.ga K c)) ∧ DictK w K (He.ga K c) kvs
  xcs : ∀ c f, (c, f) ∈ ct.xcs → mg c = some (.ref (He.ga K c)) ∧ OexC K (He.ga K c) ∧ PySem.W.findIn K (.ref (He.ga K c)) "__init__" = some (some (.ref (fX K (c, some ("__init__" : Str))))) ∧ PySem.W.typeIn K (.ref (fX K (c, some ("__init__" : Str)))) = some (.type "function") ∧ PySem.W.findIn K (.ref (He.ga K c)) f = some none
theorem reps_len1 {K : PySem.W.Frag} {o : Wo} {vs : List V} {ds : List D} (r : Reps K o vs ds) (h : vs.length = 1) : ∃ d, ds = [d] := by
  cases r with
  | nil => cases h
  | cons a b =>
    cases b with
    | nil => exact ⟨_, rfl⟩
    | cons _ _ => simp at h
section
variable {defs : List DefI} {sh : List Shape} {ct : CT} {free : List Str}
theorem sem_eq (T : TextOk defs sh ct free) {i : DefI} (hi : i ∈ defs) (n : Nat) : sem (defs.map rowOf) (n + 1) i.key = body i.N.length i.ss (sem (defs.map rowOf) n) := by
  funext ds st
  show (match (defs.map rowOf).lookup i.key with
    | some (k, s) => body k s (sem (defs.map rowOf) n) ds st
    | none => .bad) = _
  rw [T.lk i hi]
/-- every shape of a call, at each depth -/
def AllAt (P : Program) (w : World) (K : PySem.W.Frag) (mg : Str → Option Value) (base : Heap) (defs : List DefI) (n : Nat) : Prop :=
  ∀ i ∈ defs, ∀ k ks src, BindAny i k ks src → RunAt P w K mg base (3 * n) (fX K i.d.at_) k ks (fun ds es st => sem (defs.map rowOf) n i.key (src.map (pickD ds es)) st)
theorem xc_ok (T : TextOk defs sh ct free) {X : Cx} {w : World} {c f : Str} (O : KOk w X.K X.mg defs ct) (h : (c, f) ∈ ct.xcs) : XcOk X c f := by
  obtain ⟨m, ox, iC, tI, hno⟩ := O.xcs c f h
  obtain ⟨i, hi, ea, s, x, p1, p2, p3, p4, e1, e2, e3, e4, k1, k2, hb⟩ := T.xin _ h
  have ea : i.d.at_ = (c, some ("__init__" : Str)) := ea
  obtain ⟨fd, F⟩ := O.fn i hi
  have S := fsB_ok (T.fs i hi)
  rw [ea] at F
  have F0 := F
  rw [e4] at F
  rw [e1, e2] at S
  refine ⟨m, ox, _, fd, s, x, iC, tI, xinit_ok F S k1 k2 ox hno, ?_⟩
  obtain ⟨oc, od, dV, kV, doc, pm, an, cdv, ct', osl, rfl, lk, hcd, hD, _⟩ := F0.ex
  have e0 : i.d.dvs X.K = [] := by unfold He.DefD.dvs; rw [e3]; rfl
  rcases hD with ⟨_, rfl⟩ | ⟨e, _⟩
  · exact Binds.all fun us hl => hb kV doc pm an cdv ct' us hl
  · exact absurd e0 e
theorem body_ok (T : TextOk defs sh ct free) {P : Program} {w : World} {K : PySem.W.Frag} {mg : Str → Option Value} {base : Heap} (O : KOk w K mg defs ct) (hfr : ∀ x ∈ free, mg x = none) {n : Nat} (ih : AllAt P w K mg base defs n) {i : DefI} (hi : i ∈ defs) :
    ∀ (cdv : Value) (A : Around) (outer : List Env) (s : Shared) (H : Hp) (E : XK), Room (3 * n + 2) (A.deeper (envOfC i.d.qual i.d.scope s.heap.objs.size (fX K i.d.at_) cdv)) → A.guards = some [] →
      HSs (cxOf (L2.CX P w) P w K mg base i.N i.d.qual i.d.scope (fX K i.d.at_) cdv A outer s H E) (sem (defs.map rowOf) n) i.d.body i.ss := by
  have S := fsB_ok (T.fs i hi)
  intro cdv A outer s H E hr hg
  refine stmts_ok (f := compS 60 (ccOf sh ct i)) (fun st ss h => stmt_ok 60 _ (ccOf sh ct i) (3 * n) _ ?_ st ss h) _ _ (T.cp i hi)
  refine { sc := rfl, N := rfl, nd := S.nd, fn := rfl, calm := rfl, grd := hg, room := hr.mono (Nat.le_succ _), room2 := hr, ct := ?_, free := fun x hx _ => hfr x (T.fr x hx), call := fun s hs => ?_, pass := passes_of rfl, kind := S.kind, allf := fun _ => rfl, nb := T.nb }
  · refine ⟨fun f c k h => ?_, fun m c f h n' ks' src' hs => ?_, fun c f h n' ks' src' hs => ?_, O.cons, O.isi, O.cls, O.ops, O.mk0, fun c m f h n' ks' src' hs => ?_, fun c m f h n' ks' src' hs => ?_, O.ccs, fun c kvs h => ⟨(O.dcs c kvs h).1, (O.dcs c kvs h).2.mapOf⟩, fun c f h => xc_ok T O h, fun c f h hs n' hn' => ?_⟩
    · cases k with
      | fld => exact O.fld f c h
      | con d => exact O.con f c d h
      | prop g =>
        obtain ⟨cl, ⟨p, hp⟩, hs⟩ := O.prop f c g h
        obtain ⟨j, hj, en, hb'⟩ := T.mbind _ hs
        have en : j.key = g := en
        subst en
        rw [O.ats j hj] at hp
        refine ⟨cl, p, _, hp, fun A outer s H us ws vs zs Q E hr hg e0 rv rz l1 l2 ⟨o, ds, es, st, w1, r1, r2, h⟩ => ih j hj 1 [] [.pos 0] hb' A outer s H us ws vs zs Q E hr hg e0 rv rz l1 l2 ⟨o, ds, es, st, w1, r1, r2, ?_⟩⟩
        obtain ⟨d, rfl⟩ := reps_len1 r1 l1
        exact h
    · obtain ⟨cl, mt⟩ := O.meth m c f h
      obtain ⟨j, hj, en, hb'⟩ := T.mbind _ hs
      have en : j.key = f := en
      subst en
      rw [O.ats j hj] at mt
      exact ⟨cl, _, mt, ih j hj _ _ _ hb'⟩
    · obtain ⟨mm, mk⟩ := O.make c f h
      obtain ⟨j, hj, en, hb'⟩ := T.mbind _ hs
      have en : j.key = f := en
      subst en
      rw [O.ats j hj] at mk
      exact ⟨mm, _, mk, ih j hj _ _ _ hb'⟩
    · obtain ⟨mm, mc, R, fc, kp⟩ := O.cfs c m f h
      obtain ⟨j, hj, en, hb'⟩ := T.mbind _ hs
      have en : j.key = f := en
      subst en
      rw [O.ats j hj] at fc kp
      exact ⟨mm, mc, _, R, fc, kp, ih j hj _ _ _ hb'⟩
    · obtain ⟨mm, mc, p, R, cm⟩ := O.cms c m f h
      obtain ⟨j, hj, en, hb'⟩ := T.mbind _ hs
      have en : j.key = f := en
      subst en
      rw [O.ats j hj] at cm
      exact ⟨mm, mc, p, _, R, cm, ih j hj _ _ _ hb'⟩
    · obtain ⟨mm, mk⟩ := O.make c f h
      obtain ⟨j, hj, en, hb'⟩ := T.stars _ hs
      have en : j.key = f := en
      subst en
      rw [O.ats j hj] at mk
      exact ⟨mm, _, mk, ih j hj _ _ _ (hb' n' hn')⟩
  · obtain ⟨j, hj, en, ea, hb'⟩ := T.bind s hs
    obtain ⟨fdj, Fj⟩ := O.fn j hj
    have m := O.glo j hj (by rw [ea])
    rw [ea] at m
    have r := ih j hj _ _ _ hb'
    have kp := Fj.kp
    rw [en, ea] at r
    rw [ea] at kp
    exact ⟨_, m, kp, r⟩
theorem all_at (T : TextOk defs sh ct free) {P : Program} {w : World} {K : PySem.W.Frag} {mg : Str → Option Value} {base : Heap} (O : KOk w K mg defs ct) (hfr : ∀ x ∈ free, mg x = none) : ∀ n : Nat, AllAt P w K mg base defs n
  | 0 => fun i hi k ks src hb A outer s H us ws vs zs Q E hr hg e0 rv rz l1 l2 ⟨o, ds, es, st, w, r1, r2, h⟩ => h.elim
  | n + 1 => fun i hi k ks src hb => by
    have ih := all_at T (P := P) (w := w) (base := base) O hfr n
    obtain ⟨fd, F⟩ := O.fn i hi
    have S := fsB_ok (T.fs i hi)
    have hbody := body_ok T O hfr ih hi
    rcases hb with ⟨_, ns, hb⟩ | ⟨_, p0, pv, ep, rfl, hn, hz, hsrc, hdf, hbd⟩
    · obtain ⟨sl, dv, b1, b2⟩ := hb K _ fd F
      have G := fn_g (P := P) (w := w) (mg := mg) (base := base) (k := 3 * n + 2) F S hbody
      have := runAt_of (n := k) (ks := ks) (src := src) G sl ns b1 b2
      rw [sem_eq T hi]
      exact this
    · rw [ep] at S
      have := run_star (P := P) (w := w) (mg := mg) (base := base) (k := 3 * n + 2) (n := k) F S hn hz (by unfold He.DefD.dvs; rw [hdf]; rfl) hbd hbody
      rw [sem_eq T hi]
      intro A outer s H us ws vs zs Q E hr hg e0 rv rz l1 l2 ⟨o, ds, es, st, w1, r1, r2, h⟩
      refine this A outer s H us ws vs zs Q E hr hg e0 rv rz l1 l2 ⟨o, ds, es, st, w1, r1, r2, ?_⟩
      have hzs : zs = [] := List.length_eq_zero_iff.mp l2
      subst hzs
      cases r2
      have h : OutD K E o H (body i.N.length i.ss (sem (defs.map rowOf) n) (src.map (pickD ds [])) st) Q := h
      rw [hsrc ds (by rw [← r1.len]; exact l1)] at h
      exact h
/-- the law itself -/
theorem fn_law (T : TextOk defs sh ct free) {P : Program} {w : World} {K : PySem.W.Frag} {mg : Str → Option Value} {base : Heap} (O : KOk w K mg defs ct) (hfr : ∀ x ∈ free, mg x = none) (n : Nat) {i : DefI} (hi : i ∈ defs) {fd : FuncData}
    (F : FunD K i.d.name i.d.qual i.d.params i.d.body i.d.scope (i.d.dvs K) (i.d.kws K) (fX K i.d.at_) fd) : FnG P w K mg base (3 * n + 3) (fX K i.d.at_) fd i.ps (Prom K i.ps.length (sem (defs.map rowOf) (n + 1) i.key)) := by
  rw [sem_eq T hi]
  exact fn_g (k := 3 * n + 2) F (fsB_ok (T.fs i hi)) (body_ok T O hfr (all_at T (P := P) (w := w) (base := base) O hfr n) hi)
end
/-! ## a law's end -/
theorem end_g {P : Program} {w : World} {K : PySem.W.Frag} {mg mb : Str → Option Value} {k : Nat} {fa a : Addr} {fd : FuncData} {x : Str} {g : List D → Store → Res D} {s1 : Shared} {vs : List Value} {ns : List Int}
    (kx : K.In s1.heap) (h1 : s1.heap.Ns mainGlobals mg) (h2 : s1.heap.Ns builtinsNs mb) (h3 : ∀ x : Str, x ≠ "__name__" → mb x = bootBuiltins x) (h4 : s1.heap.NoLimit) (h5 : s1.gens = #[])
    (h6 : s1.heap.get? a = some { cls := .type "list", data := .seq vs.toArray }) (h7 : IntsAre vs ns) (h8 : ns.length ≤ sizeLine) (hr : Room k callerA)
    (F : ∀ base : Heap, FnG P w K mg base k fa fd [x] (Prom K 1 g)) (hb : ∀ (s : Shared) (u : Value), BindsTo s fd ⟨[u], []⟩ [(x, u)]) (hg : ∃ st, g [.scr ns] [] = .ok (.bl true) st) :
    codeAny (model P w) callerA (.call (.ref fa) ⟨[.ref a], []⟩) (fun r s' => r = .ok (.ret (.bool true)) ∧ OldK s1.heap s'.heap ∧ s'.os = s1.os ∧ AllBare s'.gens) s1 := by
  have rv := vals_ints h7
  have lv := h7.length
  have main : ∀ H : Hp, Only H → SqL K H a (ns.map V.int) → HOk P w H s1.heap → (∀ b, H b ≠ none → b = a) → (H a ≠ none → K.lookup a = none) →
      codeAny (model P w) callerA (.call (.ref fa) ⟨[.ref a], []⟩) (fun r s' => r = .ok (.ret (.bool true)) ∧ OldK s1.heap s'.heap ∧ s'.os = s1.os ∧ AllBare s'.gens) s1 := by
    intro H hO hS hok hA hK
    have bo : ∀ {b : Addr} {o : Obj}, s1.heap.get? b = some o → H b = none → (hidT s1.heap H).get? b = some o := fun e n => hidT_get e n
    have nd : ∀ {b : Addr} {o : Obj} {es : Array DictEntry} {ep : Nat}, s1.heap.get? b = some o → o.data = .dict es ep → H b = none := fun {b o es ep} e d => by
      cases q : H b with
      | none => rfl
      | some u =>
        have e' : b = a := hA b (by rw [q]; simp)
        subst e'
        rw [h6] at e
        cases e
        cases (show Data.seq vs.toArray _ = Data.dict es ep from d)
    have nk : ∀ {b : Addr} {m : Str → Option Value}, s1.heap.Ns b m → (hidT s1.heap H).Ns b m := fun {b m} ⟨o, es, ep, e, d, r⟩ => ⟨o, es, ep, bo e (nd e d), d, r⟩
    have kb : K.In (hidT s1.heap H) := fun b o e => bo (kx b o e) (by
      cases q : H b with
      | none => rfl
      | some u =>
        have e' : b = a := hA b (by rw [q]; simp)
        subst e'
        rw [hK (by rw [q]; simp)] at e
        cases e)
    have md : Mod K mg (hidT s1.heap H) := ⟨kb, nk h1, ⟨mb, nk h2, h3⟩, let ⟨mc, a1, a2⟩ := h4; ⟨mc, nk a1, a2⟩⟩
    have e0 : Env0 P w K mg (hidT s1.heap H) callerA [] s1 H := ⟨rfl, md, fun b o e => of_hidT e, Nat.le_of_eq (hidT_size _ _), trivial, fun b hb => absurd (show b ∈ ([] : List Addr) from hb) (by simp), hok, .of_eq h5⟩
    obtain ⟨stf, hgo⟩ := hg
    have hsp : Prom K 1 g [.ref a] H (fun v _ => v = .bl true) (fun _ _ _ => False) := by
      refine ⟨rfl, ⟨H, fun _ => 0, 0⟩, [.scr ns], [], ⟨rfl, fun _ _ q => q, fun i xs q => by simp at q, fun i j q => absurd q (Nat.not_lt_zero i)⟩, .cons (.scr hS) .nil, ?_⟩
      rw [hgo]
      intro v o' H' _ _ q
      cases q
      rfl
    refine codeAny_mono ((F _).go callerA [] s1 H ⟨[.ref a], []⟩ [.ref a] [.ref a] _ _ hr rfl e0 (hb s1 (.ref a)) (.cons rfl .nil) hsp) fun r s' h => ?_
    cases r with
    | error e =>
      have := passL (X := { prog := P, w := w, K := K, mg := mg, base := hidT s1.heap H, A := callerA, N := [], s_0 := s1, H_0 := H, env := default, outer := [], stack := [], ex := [], fn := fun _ => true, calm := true, pn := [], xe := fun _ _ => False })
      obtain ⟨q1, q2, q3, q4, q5, q6, q7, q8, q9, q10, q11, q12, q13⟩ := h
      exact False.elim (by assumption)
    | ok fl =>
      cases fl with
      | next => exact False.elim h
      | brk => exact False.elim h
      | cont => exact False.elim h
      | ret u =>
        obtain ⟨v, H', os, bare, un, hok', r', q⟩ := h
        have q' : v = .bl true := q
        subst q'
        obtain rfl : u = Value.bool true := r'
        refine ⟨rfl, OldK.of_keep fun b o e => ?_, os, bare⟩
        cases q : H b with
        | none => exact un.keep b o e q (fun z => absurd (show b ∈ ([] : List Addr) from z) (by simp)) (by simp)
        | some u =>
          rcases hO b with z | ⟨ob, xs, z⟩
          · rw [q] at z
            cases z
          · have z2 := un.frzs b ob _ z
            obtain ⟨e1, _⟩ := hok b _ z
            obtain ⟨e2, _⟩ := hok' b _ z2
            rw [e] at e1
            cases e1
            exact e2
  cases hk : K.lookup a with
  | some o =>
    have e := kx a o hk
    rw [h6] at e
    cases e
    exact main (fun _ => none) (fun _ => .inl rfl) (.inr ⟨_, vs.toArray, _, hk, rfl, rfl, rfl, by rw [List.size_toArray, lv]; exact h8, by simpa using rv⟩) (fun b u z => by cases (show (none : Option HO) = some u from z)) (fun b z => absurd rfl z) fun z => absurd rfl z
  | none =>
    refine main (fun b => if b = a then some (.frz { cls := .type "list", data := .seq vs.toArray } (.lst (ns.map V.int))) else none) (fun b => ?_) (.inl (.inr ⟨{ cls := .type "list", data := .seq vs.toArray }, if_pos rfl⟩)) (fun b u z => ?_) (fun b z => ?_) fun _ => hk
    · by_cases c : b = a
      · exact .inr ⟨_, _, if_pos c⟩
      · exact .inl (if_neg c)
    · by_cases c : b = a
      · have z' := (if_pos c).symm.trans z
        cases z'
        subst c
        exact ⟨h6, by rw [List.length_map]; exact h8, vs, _, rv, h6⟩
      · have z' := (if_neg c).symm.trans z
        cases z'
    · by_cases c : b = a
      · exact c
      · exact absurd (if_neg c) z
theorem walk_g {l : PySem.W.OpenLaw} {n k : Nat} {q : Program} {loose : List Str} {XP : (Str → Option Value) → Heap → Prop} {YP : World → Heap → Prop} {d : DefRec} {x : Str} {g : List D → Store → Res D}
    (hn : l.most = some n) (hn2 : n ≤ sizeLine) (hdf : d.params.defaults = []) (hr : Room k callerA) (hg : ∀ ns : List Int, ns.length ≤ n → ∃ st, g [.scr ns] [] = .ok (.bl true) st)
    (F : ∀ (w : World) (mg : Str → Option Value) (fa : Addr) (h : Heap), YP w h → h.Ns mainGlobals mg → mg d.name = some (.ref fa) →
      ∃ (K : PySem.W.Frag) (fd : FuncData), K.In h ∧ (∀ (s : Shared) (u : Value), BindsTo s fd ⟨[u], []⟩ [(x, u)]) ∧ ∀ base : Heap, FnG l.prog w K mg base k fa fd [x] (Prom K 1 g)) :
    PySem.W.WalkO q loose XP YP l.row.toRowW d [] (fun f vs => PySem.call f vs) := by
  refine Att.attach_call hn hdf fun w s₀ s₁ mg mb fa o pm cd doc a vs ns G Y ho hd hcd hmg hobj hints hlen hg' => ?_
  obtain ⟨K, fd, KX, hb, hF⟩ := F w mg fa _ Y G.T.g hmg
  exact end_g KX G.T.g G.T.b G.T.builtins G.T.nolimit hg' hobj hints (Nat.le_trans hlen hn2) hr hF hb (hg ns hlen)
/-! ## the written part's facts, by one Bool -/
def eqA (a b : Addr) : Bool := decide (a = b)
def conB (K : PySem.W.Frag) (c f : Str) : D → Bool
  | .str z => (match PySem.W.findIn K (.ref (He.ga K c)) f with
    | some (some (.str y t)) => decide (y = z) && (He.eqO (PySem.W.specialIn K (.str y t) "__get__") (some none) && !(PySem.W.copiedNames.contains f))
    | _ => false)
  | .int z => (match PySem.W.findIn K (.ref (He.ga K c)) f with
    | some (some (.int y t)) => decide (y = z) && (He.eqO (PySem.W.specialIn K (.int y t) "__get__") (some none) && !(PySem.W.copiedNames.contains f))
    | _ => false)
  | _ => false
theorem conB_ok {K : PySem.W.Frag} {c f : Str} {d : D} (h : conB K c f d = true) : ∃ v u, Con K (He.ga K c) f v u ∧ ∀ o, Rep K o v d := by
  cases d with
  | str z =>
    unfold conB at h
    simp only at h
    split at h
    · rename_i y t e
      obtain ⟨h1, h2⟩ := He.ba h
      obtain ⟨h2, h3⟩ := He.ba h2
      have h1 : y = z := of_decide_eq_true h1
      subst h1
      exact ⟨.str y, _, ⟨e, ⟨t, rfl⟩, He.eqO_ok h2, by simpa using h3⟩, fun o => .str y⟩
    · cases h
  | int z =>
    unfold conB at h
    simp only at h
    split at h
    · rename_i y t e
      obtain ⟨h1, h2⟩ := He.ba h
      obtain ⟨h2, h3⟩ := He.ba h2
      have h1 : y = z := of_decide_eq_true h1
      subst h1
      exact ⟨.int y, _, ⟨e, ⟨t, rfl⟩, He.eqO_ok h2, by simpa using h3⟩, fun o => .int y⟩
    · cases h
  | _ => cases h
def propB (K : PySem.W.Frag) (c f : Str) (a : Addr) : Bool := match PySem.W.findIn K (.ref (He.ga K c)) f with
  | some (some (.ref p)) => He.eqO (PySem.W.specialIn K (.ref p) "__get__") (some (some (.builtin "property.__get__"))) && (decide (PySem.W.takesIn K (.ref p) = some true) && (match PySem.W.recIn K p "property" with
    | some (.ref g :: _) => eqA g a
    | _ => false))
  | _ => false
theorem propB_ok {K : PySem.W.Frag} {c f : Str} {a : Addr} (h : propB K c f a = true) : ∃ p, PropOf K (He.ga K c) f p a := by
  unfold propB at h
  split at h
  · rename_i p e
    obtain ⟨h1, h2⟩ := He.ba h
    obtain ⟨h3, h4⟩ := He.ba h2
    split at h4
    · rename_i g rest e2
      have h5 : g = a := of_decide_eq_true h4
      exact ⟨p, e, He.eqO_ok h1, of_decide_eq_true h3, _, by rw [e2, h5]⟩
    · cases h4
  · cases h
def hasSh (l : List Shape) (g : Str) : Bool := l.any fun s => decide (s.1 = g) && (decide (s.2.1 = 1) && (decide (s.2.2.1 = []) && (match s.2.2.2 with
  | [.pos 0] => true
  | _ => false)))
theorem hasSh_ok {l : List Shape} {g : Str} (h : hasSh l g = true) : (g, 1, [], [Src.pos 0]) ∈ l := by
  obtain ⟨⟨a, b, c, d⟩, hm, e⟩ := List.any_eq_true.mp h
  obtain ⟨e1, q2⟩ := He.ba e
  obtain ⟨e2, q3⟩ := He.ba q2
  obtain ⟨e3, e4⟩ := He.ba q3
  have f1 : a = g := of_decide_eq_true e1
  have f2 : b = 1 := of_decide_eq_true e2
  have f3 : c = [] := of_decide_eq_true e3
  have f4 : d = [.pos 0] := by
    clear q2 q3 e e1 e2 e3 hm
    simp only at e4
    split at e4
    · rfl
    · cases e4
  rw [f1, f2, f3, f4] at hm
  exact hm
def attrB (K : PySem.W.Frag) (defs : List DefI) (msh : List Shape) (x : Str × Str × AK) : Bool := (He.Fa.cls x.2.1).ok K && (match x.2.2 with
  | .fld => (He.Fa.noat x.2.1 x.1).ok K
  | .con d => conB K x.2.1 x.1 d
  | .prop g => propB K x.2.1 x.1 (fX K (atOf defs g)) && hasSh msh g)
def methB (K : PySem.W.Frag) (defs : List DefI) (x : Str × Str × Str) : Bool := (He.Fa.cls x.2.1).ok K && ((He.Fa.meth x.2.1 x.1).ok K && eqA (He.ma K (He.ga K x.2.1) x.1) (fX K (atOf defs x.2.2)))
def makeB (K : PySem.W.Frag) (defs : List DefI) (x : Str × Str) : Bool := (He.Fa.glo x.1).ok K && ((He.Fa.mkr x.1).ok K && eqA (He.ma K (He.ga K x.1) "__init__") (fX K (atOf defs x.2)))
def dvOf : List D → Option (List He.Dv)
  | [] => some []
  | .int i :: r => (dvOf r).map (.int i :: ·)
  | .str z :: r => (dvOf r).map (.str z :: ·)
  | _ :: _ => none
theorem dvOf_rep {K : PySem.W.Frag} {o : Wo} : ∀ {ds : List D} {vs : List He.Dv}, dvOf ds = some vs → Reps K o (vs.map (He.Dv.v K)) ds
  | [], vs, h => by cases h; exact .nil
  | d :: ds, vs, h => by
    cases d with
    | int i =>
      obtain ⟨r, e1, e2⟩ := Option.map_eq_some_iff.mp (show (dvOf ds).map (He.Dv.int i :: ·) = some vs from h)
      subst e2
      exact .cons (.int i) (dvOf_rep e1)
    | str i =>
      obtain ⟨r, e1, e2⟩ := Option.map_eq_some_iff.mp (show (dvOf ds).map (He.Dv.str i :: ·) = some vs from h)
      subst e2
      exact .cons (.str i) (dvOf_rep e1)
    | _ => cases h
def consB (K : PySem.W.Frag) (x : Str × D) : Bool := match x.2 with
  | .int i => (He.Fa.int x.1 i).ok K
  | .str z => (He.Fa.str x.1 z).ok K
  | .tup ds => (He.Fa.glo x.1).ok K && (match dvOf ds with
    | some vs => He.tupB K x.1 vs
    | none => false)
  | _ => false
theorem consB_ok {K : PySem.W.Frag} {h : Heap} {mg : Str → Option Value} (X : K.In h) (G : h.Ns mainGlobals mg) {x : Str} {d : D} (c : consB K (x, d) = true) : ∃ v u, mg x = some u ∧ RelV v u ∧ ∀ o, Rep K o v d := by
  cases d with
  | int i => obtain ⟨t, e⟩ := He.int_ok X G c; exact ⟨.int i, _, e, ⟨t, rfl⟩, fun o => .int i⟩
  | str i => obtain ⟨t, e⟩ := He.str_ok X G c; exact ⟨.str i, _, e, ⟨t, rfl⟩, fun o => .str i⟩
  | tup ds =>
    unfold consB at c
    simp only at c
    obtain ⟨c1, c2⟩ := He.ba c
    split at c2
    · rename_i vs e
      exact ⟨.ref (He.ga K x), _, He.glo_ok X G c1, rfl, fun o => .tup (He.tupB_ok c2 o.F) (dvOf_rep e)⟩
    · cases c2
  | _ => cases c
def lows : List String := ["int", "bool", "tuple", "str", "list"]
def ups : List String := ["NoneType", "int", "bool", "tuple", "str", "list", "dict"]
def ancB (K : PySem.W.Frag) (anc : List (Str × List Str)) : Bool := anc.all fun x => (He.Fa.glo x.1).ok K && ((He.Fa.cls x.1).ok K && (He.eqO (PySem.W.findIn K (.ref (He.ga K x.1)) "__class__") (some (some (.builtin "object.__class__"))) &&
  (He.eqO (PySem.W.specialIn K (.builtin "object.__class__") "__get__") (some (some (.builtin "getset_descriptor.__get__"))) && (decide (PySem.W.takesIn K (.builtin "object.__class__") = some true) && (decide (PySem.W.mroIn K (He.ga K x.1) (.type "object") = some true) &&
  ((anc.all fun y => decide (PySem.W.kitOne K (.ref (He.ga K x.1)) (.ref (He.ga K y.1)) = some (x.2.contains y.1))) && ((lows.all fun t => decide (PySem.W.kitOne K (.ref (He.ga K x.1)) (.type t) = some false)) && ups.all fun t => decide (PySem.W.kitOne K (.type t) (.ref (He.ga K x.1)) = some false))))))))
theorem ancB_ok {K : PySem.W.Frag} {anc : List (Str × List Str)} (h : ancB K anc = true) : IsiOk K anc ∧ ∀ c l, (c, l) ∈ anc → (He.Fa.glo c).ok K = true := by
  have one : ∀ c l, (c, l) ∈ anc → _ := fun c l hm => List.all_eq_true.mp h (c, l) hm
  have f1 := fun c l hm => He.ba (one c l hm)
  have f2 := fun c l hm => He.ba (f1 c l hm).2
  have f3 := fun c l hm => He.ba (f2 c l hm).2
  have f4 := fun c l hm => He.ba (f3 c l hm).2
  have f5 := fun c l hm => He.ba (f4 c l hm).2
  have f6 := fun c l hm => He.ba (f5 c l hm).2
  have f7 := fun c l hm => He.ba (f6 c l hm).2
  have f8 := fun c l hm => He.ba (f7 c l hm).2
  refine ⟨⟨fun c l q => ?_, fun c c' l l' q q' => ?_, fun c l t q ht => ?_, fun c l t q ht => ?_⟩, fun c l hm => (f1 c l hm).1⟩
  · have hm := lookup_mem q
    exact ⟨He.cls_ok (f2 c l hm).1, He.eqO_ok (f3 c l hm).1, He.eqO_ok (f4 c l hm).1, of_decide_eq_true (f5 c l hm).1, of_decide_eq_true (f6 c l hm).1⟩
  · exact of_decide_eq_true (List.all_eq_true.mp (f7 c l (lookup_mem q)).1 (c', l') (lookup_mem q'))
  · refine of_decide_eq_true (List.all_eq_true.mp (f8 c l (lookup_mem q)).1 t ?_)
    rcases ht with rfl | rfl | rfl | rfl | rfl <;> simp [lows]
  · refine of_decide_eq_true (List.all_eq_true.mp (f8 c l (lookup_mem q)).2 t ?_)
    rcases ht with rfl | rfl | rfl | rfl | rfl | rfl | rfl <;> simp [ups]
def tyT : Value := .type "type"
def readB (K : PySem.W.Frag) (c : Str) : Bool := (He.Fa.glo c).ok K && (PySem.W.readsIn K (He.ga K c) tyT && He.eqO (PySem.W.specialIn K (.ref (He.ga K c)) "__getattribute__") (some (some (.builtin "type.__getattribute__"))))
theorem readB_ok {K : PySem.W.Frag} {h : Heap} {mg : Str → Option Value} (X : K.In h) (G : h.Ns mainGlobals mg) {c : Str} (e : readB K c = true) : mg c = some (.ref (He.ga K c)) ∧ ClX.CRead K (He.ga K c) tyT := by
  obtain ⟨e1, e2⟩ := He.ba e
  obtain ⟨e2, e3⟩ := He.ba e2
  exact ⟨He.glo_ok X G e1, e2, He.eqO_ok e3⟩
def mk0B (K : PySem.W.Frag) (c : Str) : Bool := (He.Fa.glo c).ok K && (PySem.W.makesIn K (He.ga K c) && (He.eqO (PySem.W.findIn K (.ref (He.ga K c)) "__init__") (some (some (.builtin "object.__init__"))) && PySem.W.keepIn K (.ref (He.ga K c))))
def cfsB (K : PySem.W.Frag) (defs : List DefI) (x : Str × Str × Str) : Bool := readB K x.1 && ((match PySem.W.findCls K (.ref (He.ga K x.1)) tyT x.2.1 with
  | some (.val (.ref a)) => eqA a (fX K (atOf defs x.2.2))
  | some (.get (.builtin g) (.ref p) .none (.ref C)) => decide (g = "staticmethod.__get__") && (eqA C (He.ga K x.1) && (match PySem.W.recIn K p "staticmethod" with
    | some (.ref a :: _) => eqA a (fX K (atOf defs x.2.2))
    | _ => false))
  | _ => false) && PySem.W.keepIn K (.ref (fX K (atOf defs x.2.2))))
def cmsB (K : PySem.W.Frag) (defs : List DefI) (x : Str × Str × Str) : Bool := readB K x.1 && ((match PySem.W.findCls K (.ref (He.ga K x.1)) tyT x.2.1 with
  | some (.get (.builtin g) (.ref p) .none (.ref C)) => decide (g = "classmethod.__get__") && (eqA C (He.ga K x.1) && (match PySem.W.recIn K p "classmethod" with
    | some (.ref a :: _) => eqA a (fX K (atOf defs x.2.2))
    | _ => false))
  | _ => false) && PySem.W.fnIn K (fX K (atOf defs x.2.2)))
def ccsB (K : PySem.W.Frag) (x : Str × Str × D) : Bool := readB K x.1 && (match x.2.2 with
  | .str z => (match PySem.W.findCls K (.ref (He.ga K x.1)) tyT x.2.1 with
    | some (.val (.str y t)) => decide (y = z)
    | _ => false)
  | .int z => (match PySem.W.findCls K (.ref (He.ga K x.1)) tyT x.2.1 with
    | some (.val (.int y t)) => decide (y = z)
    | _ => false)
  | _ => false)
theorem cfsB_ok {K : PySem.W.Frag} {h : Heap} {mg : Str → Option Value} (X : K.In h) (G : h.Ns mainGlobals mg) {defs : List DefI} {c m f : Str} (e : cfsB K defs (c, m, f) = true) :
    mg c = some (.ref (He.ga K c)) ∧ ∃ mc, ClX.CRead K (He.ga K c) mc ∧ ClsFn K (He.ga K c) mc m (fX K (atOf defs f)) ∧ PySem.W.keepIn K (.ref (fX K (atOf defs f))) = true := by
  obtain ⟨e1, e2⟩ := He.ba e
  obtain ⟨e2, e3⟩ := He.ba e2
  obtain ⟨a1, a2⟩ := readB_ok X G e1
  simp only at e2
  split at e2
  · rename_i a q
    have ea : a = fX K (atOf defs f) := of_decide_eq_true e2
    rw [ea] at q
    exact ⟨a1, tyT, a2, .inl q, e3⟩
  · rename_i g p C q
    obtain ⟨e4, e5⟩ := He.ba e2
    obtain ⟨e5, e6⟩ := He.ba e5
    have eg : g = "staticmethod.__get__" := of_decide_eq_true e4
    have ec : C = He.ga K c := of_decide_eq_true e5
    split at e6
    · rename_i a rest q2
      have ea : a = fX K (atOf defs f) := of_decide_eq_true e6
      subst eg
      rw [ec] at q
      rw [ea] at q2
      exact ⟨a1, tyT, a2, .inr ⟨p, rest, q, q2⟩, e3⟩
    · cases e6
  · cases e2
theorem cmsB_ok {K : PySem.W.Frag} {h : Heap} {mg : Str → Option Value} (X : K.In h) (G : h.Ns mainGlobals mg) {defs : List DefI} {c m f : Str} (e : cmsB K defs (c, m, f) = true) :
    mg c = some (.ref (He.ga K c)) ∧ ∃ mc p, ClX.CRead K (He.ga K c) mc ∧ ClX.CMet K (He.ga K c) mc m p (fX K (atOf defs f)) := by
  obtain ⟨e1, e2⟩ := He.ba e
  obtain ⟨e2, e3⟩ := He.ba e2
  obtain ⟨a1, a2⟩ := readB_ok X G e1
  simp only at e2
  split at e2
  · rename_i g p C q
    obtain ⟨e4, e5⟩ := He.ba e2
    obtain ⟨e5, e6⟩ := He.ba e5
    have eg : g = "classmethod.__get__" := of_decide_eq_true e4
    have ec : C = He.ga K c := of_decide_eq_true e5
    split at e6
    · rename_i a rest q2
      have ea : a = fX K (atOf defs f) := of_decide_eq_true e6
      subst eg
      rw [ec] at q
      exact ⟨a1, tyT, p, a2, q, ⟨rest, by rw [q2, ea]⟩, e3⟩
    · cases e6
  · cases e2
theorem ccsB_ok {K : PySem.W.Frag} {h : Heap} {mg : Str → Option Value} (X : K.In h) (G : h.Ns mainGlobals mg) {c f : Str} {d : D} (e : ccsB K (c, f, d) = true) :
    mg c = some (.ref (He.ga K c)) ∧ ∃ mc v u, ClX.CRead K (He.ga K c) mc ∧ ClX.CVal K (He.ga K c) mc f v u ∧ ∀ o, Rep K o v d := by
  obtain ⟨e1, e2⟩ := He.ba e
  obtain ⟨a1, a2⟩ := readB_ok X G e1
  cases d with
  | str z =>
    simp only at e2
    split at e2
    · rename_i y t q
      have ey : y = z := of_decide_eq_true e2
      subst ey
      exact ⟨a1, tyT, .str y, _, a2, ⟨q, ⟨t, rfl⟩⟩, fun o => .str y⟩
    · cases e2
  | int z =>
    simp only at e2
    split at e2
    · rename_i y t q
      have ey : y = z := of_decide_eq_true e2
      subst ey
      exact ⟨a1, tyT, .int y, _, a2, ⟨q, ⟨t, rfl⟩⟩, fun o => .int y⟩
    · cases e2
  | _ => cases e2
def valB (K : PySem.W.Frag) (u : Value) : D → Bool
  | .tup ds => (match u with
    | .ref t => (match K.lookup t with
      | some ⟨.type c, _, .seq its _, _⟩ => decide (c = "tuple") && (decide (its.size ≤ sizeLine) && (match dvOf ds with
        | some vs => He.relAll (vs.map (He.Dv.v K)) its.toList
        | none => false))
      | _ => false)
    | _ => false)
  | _ => false
theorem valB_ok {K : PySem.W.Frag} {u : Value} {d : D} (h : valB K u d = true) : ∃ v, RelV v u ∧ ∀ o, Rep K o v d := by
  unfold valB at h
  split at h
  · split at h
    · rename_i t
      split at h
      · rename_i c x its n y q
        obtain ⟨h1, h2⟩ := He.ba h
        obtain ⟨h2, h3⟩ := He.ba h2
        split at h3
        · rename_i vs e
          have hc : c = "tuple" := of_decide_eq_true h1
          subst hc
          exact ⟨.ref t, rfl, fun o => .tup (.inr ⟨_, its, n, q, rfl, rfl, of_decide_eq_true h2, He.relAll_ok h3⟩) (dvOf_rep e)⟩
        · cases h3
      · cases h
    · cases h
  · cases h
def entB (K : PySem.W.Frag) : List DictEntry → List (Str × D) → Bool
  | [], [] => true
  | e :: es, (k, d) :: r => (match e.key with
    | .str x _ => decide (x = k)
    | _ => false) && (valB K e.val d && entB K es r)
  | _, _ => false
theorem entB_ok {w : World} {K : PySem.W.Frag} : ∀ {es : List DictEntry} {kvs : List (Str × D)}, entB K es kvs = true → es.map (·.hash) = kvs.map (fun kv => hashStr w kv.1) → (∀ e ∈ es, ∃ k t, e.key = .str k t ∧ e.hash = hashStr w k) ∧
    (∀ k d, kvs.lookup k = some d → ∃ u v, (es.find? fun e => Value.isStrOf k e.key).map (·.val) = some u ∧ RelV v u ∧ ∀ o, Rep K o v d) ∧ ∀ k, kvs.lookup k = none → (es.find? fun e => Value.isStrOf k e.key).map (·.val) = none
  | [], [], _, _ => ⟨fun e he => by simp at he, fun k d h => by simp at h, fun k _ => rfl⟩
  | [], _ :: _, h, _ => by cases h
  | _ :: _, [], h, _ => by cases h
  | e :: es, (k, d) :: r, h, hh => by
    obtain ⟨h1, h2⟩ := He.ba h
    obtain ⟨h2, h3⟩ := He.ba h2
    simp only [List.map_cons, List.cons.injEq] at hh
    obtain ⟨i1, i2, i3⟩ := entB_ok (w := w) h3 hh.2
    obtain ⟨t, ek⟩ : ∃ t, e.key = .str k t := by
      split at h1
      · rename_i x t q
        have : x = k := of_decide_eq_true h1
        subst this
        exact ⟨t, q⟩
      · cases h1
    have dif : ∀ {k' : Str}, k' ≠ k → Value.isStrOf k' (.str k t) = false := fun {k'} c => by
      simp only [Value.isStrOf]
      first
        | exact beq_eq_false_iff_ne.mpr (fun z => c z.symm)
        | exact beq_eq_false_iff_ne.mpr c
        | simpa using c
        | simpa using fun z => c z.symm
    refine ⟨fun e' he => ?_, fun k' d' hl => ?_, fun k' hl => ?_⟩
    · rcases List.mem_cons.mp he with rfl | he
      · exact ⟨k, t, ek, hh.1⟩
      · exact i1 e' he
    · rw [List.lookup_cons] at hl
      by_cases c : k' = k
      · subst c
        simp at hl
        subst hl
        obtain ⟨v, a1, a2⟩ := valB_ok h2
        exact ⟨e.val, v, by rw [List.find?_cons, ek]; simp [Value.isStrOf], a1, a2⟩
      · have ne : (k' == k) = false := by simpa using c
        rw [ne] at hl
        obtain ⟨u, v, a1, a2⟩ := i2 k' d' hl
        refine ⟨u, v, ?_, a2⟩
        rw [List.find?_cons, ek]
        have : Value.isStrOf k' (.str k t) = false := by
          simp only [Value.isStrOf]
          first
            | exact beq_eq_false_iff_ne.mpr (fun z => c z.symm)
            | exact beq_eq_false_iff_ne.mpr c
            | simpa using c
            | simpa using fun z => c z.symm
        rw [this]
        exact a1
    · rw [List.lookup_cons] at hl
      by_cases c : k' = k
      · subst c
        simp at hl
      · have ne : (k' == k) = false := by simpa using c
        rw [ne] at hl
        rw [List.find?_cons, ek, dif c]
        exact i3 k' hl
def dcB (K : PySem.W.Frag) (x : Str × List (Str × D)) : Bool := (He.Fa.glo x.1).ok K && (!(He.ga K x.1 == sysModules) && match K.lookup (He.ga K x.1) with
  | some ⟨.type n, none, .dict es _, sl⟩ => decide (n = "dict") && (decide (sl.size = 0) && entB K es.toList x.2)
  | _ => false)
def hashL (K : PySem.W.Frag) (x : Str) : List Int := match K.lookup (He.ga K x) with
  | some ⟨_, _, .dict es _, _⟩ => es.toList.map (·.hash)
  | _ => []
theorem dcB_ok {w : World} {K : PySem.W.Frag} {h : Heap} {mg : Str → Option Value} (X : K.In h) (G : h.Ns mainGlobals mg) {c : Str} {kvs : List (Str × D)} (e : dcB K (c, kvs) = true) (eh : hashL K c = kvs.map fun kv => hashStr w kv.1) : mg c = some (.ref (He.ga K c)) ∧ DictK w K (He.ga K c) kvs := by
  obtain ⟨e1, e2⟩ := He.ba e
  refine ⟨He.glo_ok X G e1, ?_⟩
  simp only at e2
  obtain ⟨e6, e2⟩ := He.ba e2
  unfold hashL at eh
  split at e2
  · rename_i n es ep sl q
    rw [q] at eh
    simp only at eh
    obtain ⟨e3, e4⟩ := He.ba e2
    obtain ⟨e4, e5⟩ := He.ba e4
    have en : n = "dict" := of_decide_eq_true e3
    subst en
    obtain ⟨i1, i2, i3⟩ := entB_ok (w := w) e5 eh
    refine ⟨_, es, ep, q, ⟨rfl, rfl, Array.eq_empty_of_size_eq_zero (of_decide_eq_true e4)⟩, rfl, fun e he => i1 e (by simpa using he), fun k d hl => ?_, fun k hl => ?_, by simpa using e6⟩
    · obtain ⟨u, v, a1, a2⟩ := i2 k d hl
      refine ⟨u, v, ?_, a2⟩
      unfold findBy
      rw [← a1, ← Array.find?_toList]
    · unfold findBy
      rw [← i3 k hl, ← Array.find?_toList]
  · cases e2
def oexB (K : PySem.W.Frag) (C : Addr) : Bool := (match K.lookup C with
  | some ⟨.type "type", _, .cls cd, sl⟩ => (match cd.mro, sl.toList with
    | .ref C' :: bm, [_, _, _, _, some (.builtin n), _] => C' == C && (n == "ValueError.__new__" && (!cd.hasDel && (cd.hasDict && PySem.HandSPX.refsVE bm)))
    | _, _ => false)
  | _ => false) && (decide (PySem.W.findIn K (.ref C) "__setattr__" = some (some (.builtin "object.__setattr__"))) && (decide (PySem.W.subIn K (.ref C) (.type "BaseException") = some true) && (decide (PySem.W.typeIn K (.ref C) = some (.type "type")) && PySem.W.keepIn K (.ref C))))
theorem oexB_ok {K : PySem.W.Frag} {C : Addr} (h : oexB K C = true) : OexC K C := by
  unfold oexB at h
  obtain ⟨q, h⟩ := He.ba h
  obtain ⟨h1, h⟩ := He.ba h
  obtain ⟨h2, h⟩ := He.ba h
  obtain ⟨h3, h4⟩ := He.ba h
  refine ⟨?_, of_decide_eq_true h1, of_decide_eq_true h2, of_decide_eq_true h3, h4⟩
  split at q
  · rename_i dd cd sl ho
    split at q
    · rename_i C' bm k0 k1 k2 k3 n k5 hm hs
      simp only [Bool.and_eq_true, beq_iff_eq, Bool.not_eq_true'] at q
      obtain ⟨rfl, rfl, hdel, hdict, hv⟩ := q
      obtain ⟨nm, bs, mro, ns, qn, hd, sn, sub, ab, col, del⟩ := cd
      dsimp only at hm hdel hdict
      subst hm hdel hdict
      have hsl : sl = #[k0, k1, k2, k3, some (.builtin "ValueError.__new__"), k5] := by
        obtain ⟨l⟩ := sl
        simp only at hs
        rw [hs]
      subst hsl
      exact ⟨nm, qn, ns, bs, bm, sn, sub, ab, col, dd, k0, k1, k2, k3, k5, ho, hv⟩
    · cases q
  · cases q
def xcB (K : PySem.W.Frag) (z : Str × Str) : Bool := (He.Fa.glo z.1).ok K && (oexB K (He.ga K z.1) && (decide (PySem.W.findIn K (.ref (He.ga K z.1)) "__init__" = some (some (.ref (fX K (z.1, some ("__init__" : Str)))))) && (decide (PySem.W.typeIn K (.ref (fX K (z.1, some ("__init__" : Str)))) = some (.type "function")) && decide (PySem.W.findIn K (.ref (He.ga K z.1)) z.2 = some none))))
/-- all of it: defs, free names, classes -/
def factB (defs : List DefI) (ct : CT) (free : List Str) (K : PySem.W.Frag) : Bool := (defs.all fun i => (match i.d.at_.2 with
  | none => (He.Fa.glo i.d.at_.1).ok K
  | some _ => true)) && ((free.all fun x => (He.Fa.free x).ok K) && ((ct.attrs.all (attrB K defs ct.msh)) && ((ct.meths.all (methB K defs)) && ((ct.mks.all (makeB K defs)) && ((ct.cons.all (consB K)) && (ancB K ct.anc && ((ct.meths.all fun x => opsB K ct.anc x.1 x.2.1) && ((ct.mk0.all (mk0B K)) && ((ct.cfs.all (cfsB K defs)) && ((ct.cms.all (cmsB K defs)) && ((ct.ccs.all (ccsB K)) && (ct.dcs.all (dcB K) && ct.xcs.all (xcB K)))))))))))))
abbrev AlX : Type := He.AlD × List (List Int)
def obsX (B : PySem.W.Frag → Bool) (fn : List He.DefD) (dc : List (Str × List (Str × D))) (K : PySem.W.Frag) : AlX := ((B K && fn.all fun d => okX K d, fn.map fun d => fnX K d.at_), dc.map fun x => hashL K x.1)
def valX (fn : List He.DefD) (dc : List (Str × List (Str × D))) (w : World) : AlX := (He.valD fn, dc.map fun x => x.2.map fun kv => hashStr w kv.1)
/-- the part of the heap that some names of the module reach -/
def refX (v : Value) : List Addr := match v with
  | .ref a => [a]
  | _ => []
def addrX (g : Addr → Option Obj) (x : Str) : List Addr := match g mainGlobals with
  | some ⟨_, _, .dict es _, _⟩ => (match es.toList.find? (·.key.isStr x) with
    | some e => refX e.val
    | none => [])
  | _ => []
def growX (g : Addr → Option Obj) : Nat → Addr → List Addr
  | 0, a => [a]
  | n + 1, a => a :: (match g a with
    | some ⟨_, _, .func fd, _⟩ => refX fd.code ++ (refX fd.defaults ++ refX fd.kwdefaults)
    | some ⟨_, _, .cls cd, _⟩ => growX g n cd.ns
    | some ⟨_, _, .dict es _, _⟩ => es.toList.flatMap fun e => (refX e.val).flatMap (growX g n)
    | some ⟨_, _, .fields vs, _⟩ => vs.toList.flatMap fun v => (refX v).flatMap (growX g n)
    | _ => [])
def asX (g : Addr → Option Obj) (nm : List Str) : List Addr := mainGlobals :: cStatics :: nm.flatMap fun x => (addrX g x).flatMap (growX g 5)
def obsXG (n : List Str) (B : PySem.W.Frag → Bool) (fn : List He.DefD) (dc : List (Str × List (Str × D))) (g : Addr → Option Obj) : AlX := obsX B fn dc (He.frG g (asX g n))
def hookX (n : List Str) (B : PySem.W.Frag → Bool) (fn : List He.DefD) (dc : List (Str × List (Str × D))) : PySem.W.Hook where
  α := AlX
  obs := fun s => obsXG n B fn dc s.heap.get?
  val := fun w => valX fn dc w
  says := fun w h => ∃ K : PySem.W.Frag, K.In h ∧ obsX B fn dc K = valX fn dc w
  of := fun _ _ e => ⟨_, He.frG_in, e⟩
  keeps := fun _ _ _ ⟨K, hK, c⟩ k => ⟨K, PySem.W.Frag.In.keeps hK k, c⟩
theorem obsXG_eq {n : List Str} {B : PySem.W.Frag → Bool} {fn : List He.DefD} {dc : List (Str × List (Str × D))} {g : Addr → Option Obj} {s : Shared} (h : ∀ a, g a = s.heap.get? a) : obsXG n B fn dc g = (hookX n B fn dc).obs s := by
  have e : g = s.heap.get? := funext h
  rw [e] <;> rfl
theorem map_at {α β : Type} {f g : α → β} : ∀ {l : List α}, l.map f = l.map g → ∀ {x : α}, x ∈ l → f x = g x
  | [], _, x, h => by simp at h
  | a :: l, e, x, h => by
    simp only [List.map_cons, List.cons.injEq] at e
    rcases List.mem_cons.mp h with rfl | h
    · exact e.1
    · exact map_at e.2 h
theorem xcB_ok {K : PySem.W.Frag} {h : Heap} {mg : Str → Option Value} (X : K.In h) (G : h.Ns mainGlobals mg) {c f : Str} (e : xcB K (c, f) = true) : mg c = some (.ref (He.ga K c)) ∧ OexC K (He.ga K c) ∧ PySem.W.findIn K (.ref (He.ga K c)) "__init__" = some (some (.ref (fX K (c, some ("__init__" : Str))))) ∧ PySem.W.typeIn K (.ref (fX K (c, some ("__init__" : Str)))) = some (.type "function") ∧ PySem.W.findIn K (.ref (He.ga K c)) f = some none := by
  obtain ⟨e1, e⟩ := He.ba e
  obtain ⟨e2, e⟩ := He.ba e
  obtain ⟨e3, e⟩ := He.ba e
  obtain ⟨e4, e5⟩ := He.ba e
  exact ⟨He.glo_ok X G e1, oexB_ok e2, of_decide_eq_true e3, of_decide_eq_true e4, of_decide_eq_true e5⟩
theorem kOk {w : World} {defs : List DefI} {ct : CT} {free : List Str} {K : PySem.W.Frag} {h : Heap} {mg : Str → Option Value} (X : K.In h) (G : h.Ns mainGlobals mg) (ha : ∀ i ∈ defs, atOf defs i.key = i.d.at_) (hat : ∀ i ∈ defs, i.d.at_.2 = none → i.d.at_ = (i.d.at_.1, none))
    (c : obsX (factB defs ct free) (defs.map DefI.d) ct.dcs K = valX (defs.map DefI.d) ct.dcs w) : KOk w K mg defs ct ∧ ∀ x ∈ free, mg x = none := by
  have c1 := He.ba (show (factB defs ct free K && (defs.map DefI.d).all fun d => okX K d) = true from congrArg (fun z : AlX => z.1.1) c)
  have c2 : (defs.map DefI.d).map (fun d => fnX K d.at_) = (defs.map DefI.d).map He.DefD.val := congrArg (fun z : AlX => z.1.2) c
  have c3 : ct.dcs.map (fun x => hashL K x.1) = ct.dcs.map (fun x => x.2.map fun kv => hashStr w kv.1) := congrArg (fun z : AlX => z.2) c
  obtain ⟨b1, b⟩ := He.ba c1.1
  obtain ⟨b2, b⟩ := He.ba b
  obtain ⟨b3, b⟩ := He.ba b
  obtain ⟨b4, b⟩ := He.ba b
  obtain ⟨b5, b⟩ := He.ba b
  obtain ⟨b6, b⟩ := He.ba b
  obtain ⟨b7, b⟩ := He.ba b
  obtain ⟨b8, b⟩ := He.ba b
  obtain ⟨b9, b⟩ := He.ba b
  obtain ⟨b10, b⟩ := He.ba b
  obtain ⟨b11, b⟩ := He.ba b
  obtain ⟨b12, b⟩ := He.ba b
  obtain ⟨b13, b14⟩ := He.ba b
  obtain ⟨a1, a2⟩ := ancB_ok b7
  refine ⟨⟨fun i hi => ?_, fun i hi hn => ?_, ha, fun f c hm => ?_, fun f c d hm => ?_, fun f c g hm => ?_, fun m c f hm => ?_, fun c f hm => ?_, fun x d hm => consB_ok X G (List.all_eq_true.mp b6 _ hm), a1, fun c l hm => He.glo_ok X G (a2 c l hm), fun m c f hm => List.all_eq_true.mp b8 _ hm, fun c hm => ?_, fun c m f hm => cfsB_ok X G (List.all_eq_true.mp b10 _ hm), fun c m f hm => cmsB_ok X G (List.all_eq_true.mp b11 _ hm), fun c f d hm => ccsB_ok X G (List.all_eq_true.mp b12 _ hm), fun c kvs hm => dcB_ok X G (List.all_eq_true.mp b13 _ hm) (map_at c3 hm), fun c f hm => xcB_ok X G (List.all_eq_true.mp b14 _ hm)⟩, fun x hx => He.free_ok X G (List.all_eq_true.mp b2 x hx)⟩
  · have hm : i.d ∈ defs.map DefI.d := List.mem_map_of_mem hi
    have e : fnX K i.d.at_ = i.d.val := by
      obtain ⟨k, hk⟩ := List.getElem?_of_mem hm
      have := congrArg (fun l => l[k]?) c2
      simp only [List.getElem?_map, hk, Option.map_some, Option.some.injEq] at this
      exact this
    exact funX e (List.all_eq_true.mp c1.2 _ hm)
  · have q := List.all_eq_true.mp b1 i hi
    have ea := hat i hi hn
    rw [hn] at q
    have := He.glo_ok X G q
    rw [this, ea]
    rfl
  · obtain ⟨q1, q2⟩ := He.ba (List.all_eq_true.mp b3 _ hm)
    exact ⟨He.cls_ok q1, He.noat_ok q2⟩
  · obtain ⟨q1, q2⟩ := He.ba (List.all_eq_true.mp b3 _ hm)
    exact ⟨He.cls_ok q1, conB_ok q2⟩
  · obtain ⟨q1, q2⟩ := He.ba (List.all_eq_true.mp b3 _ hm)
    obtain ⟨q2, q3⟩ := He.ba q2
    exact ⟨He.cls_ok q1, propB_ok q2, hasSh_ok q3⟩
  · obtain ⟨q1, q2⟩ := He.ba (List.all_eq_true.mp b4 _ hm)
    obtain ⟨q2, q3⟩ := He.ba q2
    have q3 : He.ma K (He.ga K c) m = fX K (atOf defs f) := of_decide_eq_true q3
    refine ⟨He.cls_ok q1, ?_⟩
    have := He.meth_ok q2
    rw [q3] at this
    exact this
  · obtain ⟨q1, q2⟩ := He.ba (List.all_eq_true.mp b5 _ hm)
    obtain ⟨q2, q3⟩ := He.ba q2
    have q3 : He.ma K (He.ga K c) "__init__" = fX K (atOf defs f) := of_decide_eq_true q3
    refine ⟨He.glo_ok X G q1, ?_⟩
    have := He.mkr_ok q2
    rw [q3] at this
    exact this
  · obtain ⟨q1, q2⟩ := He.ba (List.all_eq_true.mp b9 _ hm)
    obtain ⟨q2, q3⟩ := He.ba q2
    obtain ⟨q3, q4⟩ := He.ba q3
    exact ⟨He.glo_ok X G q1, q2, He.eqO_ok q3, q4⟩
/-! ### a world's one row, settled -/
def setB (w : World) (b : Bool) : World := { w with params := { w.params with followText := fun s => if s == "special-get-raises" then b else w.params.followText s } }
theorem setB_eq (w : World) : setB w (w.params.followText "special-get-raises") = w := by
  obtain ⟨d, p⟩ := w
  obtain ⟨p1, p2, p3, p4, p5, ft, p7, p8, p9, p10, p11, p12, p13, p14, p15, p16, p17, p18, p19, p20, p21, p22, p23, p24, p25⟩ := p
  have e : (fun s => if s == "special-get-raises" then ft "special-get-raises" else ft s) = ft := by
    funext s
    by_cases h : s = "special-get-raises"
    · subst h
      simp
    · simp [h]
  simp only [setB, e]
theorem by_row {P : World → Prop} (h : ∀ w b, P (setB w b)) (w : World) : P w := by
  rw [← setB_eq w]
  exact h _ _
/-! ## the head's equation in four parts: what Lean holds of one is let go behind it -/
section
open PySem.W HandSHeadRun
/-- the fragment behind the top -/
def frX (n : List Str) (s : SharedT) : PySem.W.Frag := He.frG (getT s) (asX (getT s) n)
def RunP {α : Type} (r : OpenRow) (M : Nat) (w : World) (f : SharedT → α) (a : α) : Prop := ∀ os : OsState, (endF (HandSHeadRun.stepQ (denQ tabQ) r.prog w) M r.prog w os).map f = some a
noncomputable def looksP (r : OpenRow) (w : World) (s : SharedT) : Bool := looksF r.prog (boot_heap w.params) s.abs
noncomputable def seenP (r : OpenRow) (q : Program) (loose : List PySem.Str) (s : SharedT) := HandSHeadRun.seenQ q loose (importedModules r.prog.main.body) (fun s => xlAt q [] s && recOk r.toRowW.records s) s.abs
theorem run_four {r : OpenRow} {q : Program} {M : Nat} {loose n : List PySem.Str} {w : World} {B : PySem.W.Frag → Bool} {fn : List He.DefD} {dc : List (Str × List (Str × D))} {ob : SharedT → AlX} (hob : ∀ s, ob s = obsX B fn dc (frX n s))
    (h1 : RunP r M w (looksP r w) true) (h2 : RunP r M w (seenP r q loose) (openGood q loose)) (h3 : RunP r M w (fun s => B (frX n s)) true) (h4 : RunP r M w (fun s => obsX (fun _ => true) fn dc (frX n s)) (valX fn dc w)) :
    RunEq r q (hookX n B fn dc) ob M loose w := fun os => by
  have g1 := h1 os
  have g2 := h2 os
  have g3 := h3 os
  have g4 := h4 os
  clear h1 h2 h3 h4
  generalize endF (HandSHeadRun.stepQ (denQ tabQ) r.prog w) M r.prog w os = e at *
  cases e with
  | none => cases g1
  | some s =>
    simp only [Option.map_some, Option.some.injEq] at g1 g2 g3 g4 ⊢
    have e : obsX B fn dc (frX n s) = obsX (fun _ => true) fn dc (frX n s) := by
      unfold obsX
      rw [g3]
    exact Prod.ext g1 (Prod.ext g2 ((hob s).trans (e.trans g4)))
end
end DS
namespace DS
open PySem L2 PyProof.Rows
/-! ## the text of the law -/
def top (i : Nat) : Stmt := PySem.Challenge.pw_sizechains_k24_chains_made.main.body.getD i (.Pass ⟨0, 0, 0, 0⟩)
def ctA : List (Str × Str × AK) := (("times", "Turn", .fld) :: ("cover", "Scaling", .fld) :: ("cover", "Shrink", .fld) :: ("cover", "Grow", .fld) :: ("height", "Size", .fld) :: ("height", "Scaling", .fld) :: ("height", "Shrink", .fld) :: ("height", "Grow", .fld) :: ("height", "Crop", .fld) :: ("height", "CropWidth", .fld) :: ("height", "CropHeight", .fld) :: ("width", "Size", .fld) :: ("width", "Scaling", .fld) :: ("width", "Shrink", .fld) :: ("width", "Grow", .fld) :: ("width", "Crop", .fld) :: ("width", "CropWidth", .fld) :: ("width", "CropHeight", .fld) :: ("keep", "Crop", .fld) :: ("keep", "CropWidth", .fld) :: ("keep", "CropHeight", .fld) :: ("WORD", "Step", .con (.str "")) :: ("WORD", "Scaling", .con (.str "")) :: ("WORD", "Shrink", .con (.str "shrink")) :: ("WORD", "Grow", .con (.str "grow")) :: ("WORD", "Crop", .con (.str "")) :: ("WORD", "CropWidth", .con (.str "width")) :: ("WORD", "CropHeight", .con (.str "height")) :: ("WORD", "Turn", .con (.str "turn")) :: ("WORD", "Landscape", .con (.str "landscape")) :: ("WORD", "Portrait", .con (.str "portrait")) :: ("held", "Chain", .fld) :: ("MOST", "Chain", .con (.int 60)) :: ("steps", "Chain", .prop "Chain.steps") :: [])
def ctM : List (Str × Str × Str) := [("__len__", "Chain", "Chain.__len__"), ("__mul__", "Chain", "Chain.__mul__"), ("__eq__", "Shrink", "Step.__eq__"), ("__eq__", "Grow", "Step.__eq__"), ("__eq__", "CropWidth", "Step.__eq__"), ("__eq__", "CropHeight", "Step.__eq__"), ("__eq__", "Turn", "Step.__eq__"), ("__eq__", "Landscape", "Step.__eq__"), ("__eq__", "Portrait", "Step.__eq__"), ("__eq__", "Chain", "Chain.__eq__"), ("__repr__", "Shrink", "Step.__repr__"), ("__repr__", "Grow", "Step.__repr__"), ("__repr__", "CropWidth", "Step.__repr__"), ("__repr__", "CropHeight", "Step.__repr__"), ("__repr__", "Turn", "Step.__repr__"), ("__repr__", "Landscape", "Step.__repr__"), ("__repr__", "Portrait", "Step.__repr__"), ("__repr__", "Chain", "Chain.__repr__"), ("__add__", "Chain", "Chain.__add__"), ("__str__", "Shrink", "Step.__str__"), ("__str__", "Grow", "Step.__str__"), ("__str__", "CropWidth", "Step.__str__"), ("__str__", "CropHeight", "Step.__str__"), ("__str__", "Turn", "Step.__str__"), ("__str__", "Landscape", "Step.__str__"), ("__str__", "Portrait", "Step.__str__"), ("__str__", "Chain", "Chain.__str__"), ("__contains__", "Chain", "Chain.__contains__")]
def ctN : List (Str × List Str) := [("Size", ["Size"]), ("Step", ["Step"]), ("Scaling", ["Scaling", "Step"]), ("Shrink", ["Shrink", "Scaling", "Step"]), ("Grow", ["Grow", "Scaling", "Step"]), ("Crop", ["Crop", "Step"]), ("CropWidth", ["CropWidth", "Crop", "Step"]), ("CropHeight", ["CropHeight", "Crop", "Step"]), ("Turn", ["Turn", "Step"]), ("Landscape", ["Landscape", "Step"]), ("Portrait", ["Portrait", "Step"]), ("Chain", ["Chain"])]
def ctS : List Shape := [("Chain.__len__", 1, [], [.pos 0]), ("Chain.__init__", 1, [], [.pos 0, .star 1]), ("Chain.__mul__", 2, [], [.pos 0, .pos 1]), ("Chain.__init__", 3, [], [.pos 0, .star 1]), ("Turn.__init__", 1, [], [.pos 0, .dfl 0 (.int 1)]), ("Step.__eq__", 2, [], [.pos 0, .pos 1]), ("Chain.__eq__", 2, [], [.pos 0, .pos 1]), ("Chain.read", 2, [], [.pos 0, .pos 1]), ("Chain.__init__", 6, [], [.pos 0, .star 1]), ("Chain.__init__", 5, [], [.pos 0, .star 1]), ("Chain.__init__", 4, [], [.pos 0, .star 1]), ("Chain.__init__", 2, [], [.pos 0, .star 1]), ("Turn.__init__", 2, [], [.pos 0, .pos 1]), ("CropHeight.__init__", 3, ["keep"], [.pos 0, .pos 1, .pos 2, .kw 0]), ("CropWidth.__init__", 3, ["keep"], [.pos 0, .pos 1, .pos 2, .kw 0]), ("Grow.__init__", 3, ["cover"], [.pos 0, .pos 1, .pos 2, .kw 0]), ("Shrink.__init__", 3, ["cover"], [.pos 0, .pos 1, .pos 2, .kw 0]), ("Scaling.__init__", 3, ["cover"], [.pos 0, .pos 1, .pos 2, .kw 0]), ("Crop.__init__", 4, [], [.pos 0, .pos 1, .pos 2, .pos 3]), ("Step.__repr__", 1, [], [.pos 0]), ("Chain.__repr__", 1, [], [.pos 0]), ("Chain.__add__", 2, [], [.pos 0, .pos 1]), ("Step.__str__", 1, [], [.pos 0]), ("Chain.__str__", 1, [], [.pos 0]), ("Chain.steps", 1, [], [.pos 0]), ("Chain.__contains__", 2, [], [.pos 0, .pos 1])]
def ctK : List (Str × Str) := [("Chain", "Chain.__init__"), ("CropHeight", "CropHeight.__init__"), ("CropWidth", "CropWidth.__init__"), ("Grow", "Grow.__init__"), ("Shrink", "Shrink.__init__"), ("Turn", "Turn.__init__")]
def ctSt : List Str := ["Chain.__init__"]
def ct : CT := { attrs := ctA, meths := ctM, mks := ctK, mk0 := ["Landscape", "Portrait"], cfs := [("Scaling", "__init__", "Scaling.__init__"), ("Crop", "__init__", "Crop.__init__")], cms := [("Chain", "read", "Chain.read")], ccs := [("Chain", "MOST", .int 60), ("Portrait", "WORD", .str "portrait"), ("Landscape", "WORD", .str "landscape"), ("Turn", "WORD", .str "turn"), ("Shrink", "WORD", .str "shrink"), ("CropWidth", "WORD", .str "width")], dcs := [("KEEPS", [("width", .tup [.str "left", .str "center", .str "right"]), ("height", .tup [.str "top", .str "center", .str "bottom"])])], cons := [("COVER", .str "cover"), ("DIGITS_steps", .str "0123456789"), ("JOINT", .str ", "), ("MOST_SIDE", .int 1000000), ("MOST_STEPS", .int 60), ("SCALINGS", .tup [.str "shrink", .str "grow"]), ("TURNS", .tup [.str "1", .str "2", .str "3"])], xcs := [], star := ctSt, anc := ctN, msh := ctS }
noncomputable def b_is_whole : SS :=
  (sSeq (sIf (tOr' (tNt (tE (eBlt (dIsO ctN) (aCons (eVar 0) (aCons (eC (.ty "int")) aNil))))) (tOr' (tE (eBlt (dIsO ctN) (aCons (eVar 0) (aCons (eC (.ty "bool")) aNil)))) (tE (eBin dLt (eVar 0) (eVar 1))))) (sRet (eC (.bl false))) sNil)
  (sRet (eOr (eBin dIs (eVar 2) (eC (.non))) (eBin dLe (eVar 0) (eVar 2)))))
noncomputable def b_check_box : SS :=
  (sFor (eIter (eTup (aCons (eVar 0) (aCons (eVar 1) aNil)))) (.nm 2) (sIf (tNt (tE (eCallK "is_whole" [.pos 0, .pos 1, .pos 2] (aCons (eVar 2) (aCons (eC (.int 1)) (aCons (eC (.int 1000000)) aNil))) aNil))) sBad sNil))
noncomputable def b_check_keep : SS :=
  (sIf (tOr' (tNt (tE (eBlt (dIsO ctN) (aCons (eVar 1) (aCons (eC (.ty "str")) aNil))))) (tE (eBin dNotIn (eVar 1) (eUn (dKey [("width", .tup [.str "left", .str "center", .str "right"]), ("height", .tup [.str "top", .str "center", .str "bottom"])]) (eVar 0))))) sBad sNil)
noncomputable def b_parts_of : SS :=
  (sSeq (sIf (tE (eBlt (dIsO ctN) (aCons (eVar 0) (aCons (eC (.cls "Scaling")) aNil)))) (sRet (eTup (aCons (eAttr "WORD" (attrTab ctA "WORD") (eVar 0)) (aCons (eAttr "width" (attrTab ctA "width") (eVar 0)) (aCons (eAttr "height" (attrTab ctA "height") (eVar 0)) (aCons (eAttr "cover" (attrTab ctA "cover") (eVar 0)) aNil)))))) sNil)
  (sSeq (sIf (tE (eBlt (dIsO ctN) (aCons (eVar 0) (aCons (eC (.cls "Crop")) aNil)))) (sRet (eTup (aCons (eAttr "WORD" (attrTab ctA "WORD") (eVar 0)) (aCons (eAttr "width" (attrTab ctA "width") (eVar 0)) (aCons (eAttr "height" (attrTab ctA "height") (eVar 0)) (aCons (eAttr "keep" (attrTab ctA "keep") (eVar 0)) aNil)))))) sNil)
  (sSeq (sIf (tE (eBlt (dIsO ctN) (aCons (eVar 0) (aCons (eC (.cls "Turn")) aNil)))) (sRet (eTup (aCons (eAttr "WORD" (attrTab ctA "WORD") (eVar 0)) (aCons (eAttr "times" (attrTab ctA "times") (eVar 0)) aNil)))) sNil)
  (sRet (eTup (aCons (eAttr "WORD" (attrTab ctA "WORD") (eVar 0)) aNil))))))
noncomputable def b_written : SS :=
  (sSeq (sAsg (eCallK "parts_of" [.pos 0] (aCons (eVar 0) aNil) aNil) (gStarT [(.nm 1), (.nm 2)]))
  (sSeq (sIf (tE (eBlt (dIsO ctN) (aCons (eVar 0) (aCons (eC (.cls "Scaling")) aNil)))) (sRet (eBin dAdd (eJs [(eUn dFmt (eVar 1)), (eC (.str " ")), (eUn dFmt (eIxx dIx (eVar 2) (eC (.int 0)))), (eC (.str "x")), (eUn dFmt (eIxx dIx (eVar 2) (eC (.int 1))))]) (eIf (tE (eIxx dIx (eVar 2) (eC (.int 2)))) (eBin dAdd (eC (.str " ")) (eC (.str "cover"))) (eC (.str ""))))) sNil)
  (sSeq (sIf (tE (eBlt (dIsO ctN) (aCons (eVar 0) (aCons (eC (.cls "Crop")) aNil)))) (sRet (eJs [(eUn dFmt (eVar 1)), (eC (.str " ")), (eUn dFmt (eIxx dIx (eVar 2) (eC (.int 0)))), (eC (.str ":")), (eUn dFmt (eIxx dIx (eVar 2) (eC (.int 1)))), (eC (.str " ")), (eUn dFmt (eIxx dIx (eVar 2) (eC (.int 2))))])) sNil)
  (sRet (eBinS dJoin (eC (.str " ")) (eBin dAdd (eLst (aCons (eVar 1) aNil)) (eComp [3] (eIter (eVar 2)) (.nm 3) tYs (eBlt dStr (aCons (eVar 3) aNil)))))))))
noncomputable def b_Step___str__ : SS :=
  (sRet (eBlt dStr (aCons (eCallK "written" [.pos 0] (aCons (eVar 0) aNil) aNil) aNil)))
noncomputable def b_Step___repr__ : SS :=
  (sRet (eJs [(eC (.str "Step(")), (eUn dFmt (eCallK "written" [.pos 0] (aCons (eVar 0) aNil) aNil)), (eC (.str ")"))]))
noncomputable def b_Step___eq__ : SS :=
  (sRet (eAn (eBlt (dIsO ctN) (aCons (eVar 1) (aCons (eC (.cls "Step")) aNil))) (eBin dEq (eCallK "parts_of" [.pos 0] (aCons (eVar 0) aNil) aNil) (eCallK "parts_of" [.pos 0] (aCons (eVar 1) aNil) aNil))))
noncomputable def b_Scaling___init__ : SS :=
  (sSeq (sExp (eCallK "check_box" [.pos 0, .pos 1] (aCons (eVar 1) (aCons (eVar 2) aNil)) aNil))
  (sSeq (sAsg (eVar 1) (gFld "width" (attrTab ctA "width") (eVar 0)))
  (sSeq (sAsg (eVar 2) (gFld "height" (attrTab ctA "height") (eVar 0)))
  (sAsg (eVar 3) (gFld "cover" (attrTab ctA "cover") (eVar 0))))))
noncomputable def b_Shrink___init__ : SS :=
  (sExp (eCallK "Scaling.__init__" [.pos 0, .pos 1, .pos 2, .kw 0] (aCons (eVar 0) (aCons (eVar 1) (aCons (eVar 2) aNil))) (aCons (eVar 3) aNil)))
noncomputable def b_Grow___init__ : SS :=
  (sExp (eCallK "Scaling.__init__" [.pos 0, .pos 1, .pos 2, .kw 0] (aCons (eVar 0) (aCons (eVar 1) (aCons (eVar 2) aNil))) (aCons (eVar 3) aNil)))
noncomputable def b_Crop___init__ : SS :=
  (sSeq (sExp (eCallK "check_box" [.pos 0, .pos 1] (aCons (eVar 1) (aCons (eVar 2) aNil)) aNil))
  (sSeq (sExp (eCallK "check_keep" [.pos 0, .pos 1] (aCons (eAttr "WORD" (attrTab ctA "WORD") (eVar 0)) (aCons (eVar 3) aNil)) aNil))
  (sSeq (sAsg (eVar 1) (gFld "width" (attrTab ctA "width") (eVar 0)))
  (sSeq (sAsg (eVar 2) (gFld "height" (attrTab ctA "height") (eVar 0)))
  (sAsg (eVar 3) (gFld "keep" (attrTab ctA "keep") (eVar 0)))))))
noncomputable def b_CropWidth___init__ : SS :=
  (sExp (eCallK "Crop.__init__" [.pos 0, .pos 1, .pos 2, .pos 3] (aCons (eVar 0) (aCons (eVar 1) (aCons (eVar 2) (aCons (eVar 3) aNil)))) aNil))
noncomputable def b_CropHeight___init__ : SS :=
  (sExp (eCallK "Crop.__init__" [.pos 0, .pos 1, .pos 2, .pos 3] (aCons (eVar 0) (aCons (eVar 1) (aCons (eVar 2) (aCons (eVar 3) aNil)))) aNil))
noncomputable def b_Turn___init__ : SS :=
  (sSeq (sIf (tNt (tE (eCallK "is_whole" [.pos 0, .pos 1, .pos 2] (aCons (eVar 1) (aCons (eC (.int 1)) (aCons (eBlt dLen (aCons (eC (.tup [.str "1", .str "2", .str "3"])) aNil)) aNil))) aNil))) sBad sNil)
  (sAsg (eVar 1) (gFld "times" (attrTab ctA "times") (eVar 0))))
noncomputable def b_read_side : SS :=
  (sSeq (sIf (tOr' (tNt (tE (eChn dLe dLe (eC (.int 1)) (eBlt dLen (aCons (eVar 0) aNil)) (eBlt dLen (aCons (eBlt dStr (aCons (eC (.int 1000000)) aNil)) aNil))))) (tE (eBinS dStarts (eVar 0) (eC (.str "0"))))) (sRet (eC (.non))) sNil)
  (sSeq (sIf (tOr' (tNt (tE (eBlt dAll (aCons (eComp [1] (eIter (eVar 0)) (.nm 1) tYs (eBin dIn (eVar 1) (eC (.str "0123456789")))) aNil)))) (tE (eBin dGt (eBlt dInt (aCons (eVar 0) aNil)) (eC (.int 1000000))))) (sRet (eC (.non))) sNil)
  (sRet (eBlt dInt (aCons (eVar 0) aNil)))))
noncomputable def b_read_sides_steps : SS :=
  (sSeq (sAsg (eBinS dSplit (eVar 0) (eVar 1)) (gTg (.nm 2)))
  (sSeq (sAsg (eComp [4] (eIter (eVar 2)) (.nm 4) tYs (eCallK "read_side" [.pos 0] (aCons (eVar 4) aNil) aNil)) (gTg (.nm 3)))
  (sRet (eIf (tOr' (tE (eBin dNe (eBlt dLen (aCons (eVar 2) aNil)) (eC (.int 2)))) (tE (eBin dIn (eC (.non)) (eVar 3)))) (eC (.non)) (eVar 3)))))
noncomputable def b_read_scaling : SS :=
  (sSeq (sAsg (eCallK "read_sides_steps" [.pos 0, .pos 1] (aCons (eIxx dIx (eVar 0) (eC (.int 1))) (aCons (eC (.str "x")) aNil)) aNil) (gTg (.nm 1)))
  (sSeq (sIf (tOr' (tE (eBin dIs (eVar 1) (eC (.non)))) (tAn (tE (eBin dGt (eBlt dLen (aCons (eVar 0) aNil)) (eC (.int 2)))) (tE (eBin dNe (eIxx dIx (eVar 0) (eC (.int 2))) (eC (.str "cover")))))) (sRet (eC (.non))) sNil)
  (sSeq (sIf (tE (eBin dEq (eIxx dIx (eVar 0) (eC (.int 0))) (eC (.str "shrink")))) (sRet (eMake "Shrink" "Shrink.__init__" [.pos 0, .pos 1, .pos 2, .kw 0] (aCons (eIxx dIx (eVar 1) (eC (.int 0))) (aCons (eIxx dIx (eVar 1) (eC (.int 1))) aNil)) (aCons (eBin dGt (eBlt dLen (aCons (eVar 0) aNil)) (eC (.int 2))) aNil))) sNil)
  (sRet (eMake "Grow" "Grow.__init__" [.pos 0, .pos 1, .pos 2, .kw 0] (aCons (eIxx dIx (eVar 1) (eC (.int 0))) (aCons (eIxx dIx (eVar 1) (eC (.int 1))) aNil)) (aCons (eBin dGt (eBlt dLen (aCons (eVar 0) aNil)) (eC (.int 2))) aNil))))))
noncomputable def b_read_crop : SS :=
  (sSeq (sAsg (eCallK "read_sides_steps" [.pos 0, .pos 1] (aCons (eIxx dIx (eVar 0) (eC (.int 1))) (aCons (eC (.str ":")) aNil)) aNil) (gTg (.nm 1)))
  (sSeq (sIf (tOr' (tE (eBin dIs (eVar 1) (eC (.non)))) (tE (eBin dNotIn (eIxx dIx (eVar 0) (eC (.int 2))) (eUn (dKey [("width", .tup [.str "left", .str "center", .str "right"]), ("height", .tup [.str "top", .str "center", .str "bottom"])]) (eIxx dIx (eVar 0) (eC (.int 0))))))) (sRet (eC (.non))) sNil)
  (sSeq (sIf (tE (eBin dEq (eIxx dIx (eVar 0) (eC (.int 0))) (eC (.str "width")))) (sRet (eMake "CropWidth" "CropWidth.__init__" [.pos 0, .pos 1, .pos 2, .kw 0] (aCons (eIxx dIx (eVar 1) (eC (.int 0))) (aCons (eIxx dIx (eVar 1) (eC (.int 1))) aNil)) (aCons (eIxx dIx (eVar 0) (eC (.int 2))) aNil))) sNil)
  (sRet (eMake "CropHeight" "CropHeight.__init__" [.pos 0, .pos 1, .pos 2, .kw 0] (aCons (eIxx dIx (eVar 1) (eC (.int 0))) (aCons (eIxx dIx (eVar 1) (eC (.int 1))) aNil)) (aCons (eIxx dIx (eVar 0) (eC (.int 2))) aNil))))))
noncomputable def b_read_step : SS :=
  (sSeq (sIf (tNt (tE (eBlt (dIsO ctN) (aCons (eVar 0) (aCons (eC (.ty "str")) aNil))))) (sRet (eC (.non))) sNil)
  (sSeq (sAsg (eBinS dSplit (eVar 0) (eC (.str " "))) (gTg (.nm 1)))
  (sSeq (sIf (tAn (tE (eBin dIn (eIxx dIx (eVar 1) (eC (.int 0))) (eC (.tup [.str "shrink", .str "grow"])))) (tE (eChn dLe dLe (eC (.int 2)) (eBlt dLen (aCons (eVar 1) aNil)) (eC (.int 3))))) (sRet (eCallK "read_scaling" [.pos 0] (aCons (eVar 1) aNil) aNil)) sNil)
  (sSeq (sIf (tAn (tE (eUn (dHas [("width", .tup [.str "left", .str "center", .str "right"]), ("height", .tup [.str "top", .str "center", .str "bottom"])] false) (eIxx dIx (eVar 1) (eC (.int 0))))) (tE (eBin dEq (eBlt dLen (aCons (eVar 1) aNil)) (eC (.int 3))))) (sRet (eCallK "read_crop" [.pos 0] (aCons (eVar 1) aNil) aNil)) sNil)
  (sSeq (sIf (tAn (tE (eBin dEq (eIxx dIx (eVar 1) (eC (.int 0))) (eC (.str "turn")))) (tAn (tE (eBin dEq (eBlt dLen (aCons (eVar 1) aNil)) (eC (.int 2)))) (tE (eBin dIn (eIxx dIx (eVar 1) (eC (.int 1))) (eC (.tup [.str "1", .str "2", .str "3"])))))) (sRet (eMake "Turn" "Turn.__init__" [.pos 0, .pos 1] (aCons (eBlt dInt (aCons (eIxx dIx (eVar 1) (eC (.int 1))) aNil)) aNil) aNil)) sNil)
  (sSeq (sIf (tE (eBin dEq (eVar 0) (eC (.str "landscape")))) (sRet (eMake0 "Landscape")) sNil)
  (sRet (eIf (tE (eBin dEq (eVar 0) (eC (.str "portrait")))) (eMake0 "Portrait") (eC (.non))))))))))
noncomputable def b_check_chain : SS :=
  (sIf (tNt (tE (eBlt (dIsO ctN) (aCons (eVar 0) (aCons (eC (.cls "Chain")) aNil))))) sBad sNil)
noncomputable def b_check_count : SS :=
  (sIf (tE (eBin dGt (eVar 0) (eC (.int 60)))) sBad sNil)
noncomputable def b_Chain___init__ : SS :=
  (sSeq (sFor (eEnum (aCons (eVar 1) aNil)) (.tp [(.nm 2), (.nm 3)]) (sIf (tNt (tE (eBlt (dIsO ctN) (aCons (eVar 3) (aCons (eC (.cls "Step")) aNil))))) sBad sNil))
  (sSeq (sExp (eCallK "check_count" [.pos 0] (aCons (eBlt dLen (aCons (eVar 1) aNil)) aNil) aNil))
  (sAsg (eVar 1) (gFld "held" (attrTab ctA "held") (eVar 0)))))
noncomputable def b_Chain_steps : SS :=
  (sRet (eAttr "held" (attrTab ctA "held") (eVar 0)))
noncomputable def b_Chain___str__ : SS :=
  (sRet (eBinS dJoin (eC (.str ", ")) (eComp [1] (eIter (eAttr "held" (attrTab ctA "held") (eVar 0))) (.nm 1) tYs (eBltC (oText (opTab ctS ctM "__str__" 1 isP1) dStr) (aCons (eVar 1) aNil)))))
noncomputable def b_Chain___repr__ : SS :=
  (sRet (eJs [(eC (.str "Chain(")), (eUn dFmt (eBlt dLen (aCons (eAttr "held" (attrTab ctA "held") (eVar 0)) aNil))), (eC (.str ")"))]))
noncomputable def b_Chain___len__ : SS :=
  (sRet (eBlt dLen (aCons (eAttr "held" (attrTab ctA "held") (eVar 0)) aNil)))
noncomputable def b_Chain___eq__ : SS :=
  (sRet (eAn (eBlt (dIsO ctN) (aCons (eVar 1) (aCons (eC (.cls "Chain")) aNil))) (eBin dEq (eAttr "held" (attrTab ctA "held") (eVar 0)) (eAttr "held" (attrTab ctA "held") (eVar 1)))))
noncomputable def b_Chain___add__ : SS :=
  (sSeq (sExp (eCallK "check_chain" [.pos 0] (aCons (eVar 1) aNil) aNil))
  (sSeq (sExp (eCallK "check_count" [.pos 0] (aCons (eBin dAdd (eBlt dLen (aCons (eAttr "held" (attrTab ctA "held") (eVar 0)) aNil)) (eBlt dLen (aCons (eAttr "held" (attrTab ctA "held") (eVar 1)) aNil))) aNil) aNil))
  (sRet (eMakeS "Chain" "Chain.__init__" (aStar (eAttr "held" (attrTab ctA "held") (eVar 0)) (aStar (eAttr "held" (attrTab ctA "held") (eVar 1)) aNil))))))
noncomputable def b_Chain_read : SS :=
  (sSeq (sAsg (eCallK "steps_in" [.pos 0] (aCons (eVar 1) aNil) aNil) (gTg (.nm 2)))
  (sSeq (sIf (tE (eBin dIs (eVar 2) (eC (.non)))) sBad sNil)
  (sRet (eMakeVS (eVar 0) (starTab ctK ctSt) (eVar 2)))))
noncomputable def b_Chain___contains__ : SS :=
  (sRet (eBinC (oIn false ctN (opTab ctS ctM "__eq__" 2 isP2) (opTab ctS ctM "__contains__" 2 isP2) dIn) (eVar 1) (eAttr "held" (attrTab ctA "held") (eVar 0))))
noncomputable def b_Chain___mul__ : SS :=
  (sSeq (sIf (tOr' (tNt (tE (eBlt (dIsO ctN) (aCons (eVar 1) (aCons (eC (.ty "int")) aNil))))) (tOr' (tE (eBlt (dIsO ctN) (aCons (eVar 1) (aCons (eC (.ty "bool")) aNil)))) (tE (eBin dLt (eVar 1) (eC (.int 0)))))) sBad sNil)
  (sSeq (sExp (eCallK "check_count" [.pos 0] (aCons (eBinC (oMul (opTab ctS ctM "__mul__" 2 isP2) dMulT) (eBltC (oLen (opTab ctS ctM "__len__" 1 isP1) dLen) (aCons (eAttr "held" (attrTab ctA "held") (eVar 0)) aNil)) (eVar 1)) aNil) aNil))
  (sSeq (sAsg (eIf (tE (eAttr "held" (attrTab ctA "held") (eVar 0))) (eBinC (oMul (opTab ctS ctM "__mul__" 2 isP2) dMulT) (eAttr "held" (attrTab ctA "held") (eVar 0)) (eVar 1)) (eTup aNil)) (gTg (.nm 2)))
  (sRet (eMakeS "Chain" "Chain.__init__" (aStar (eVar 2) aNil))))))
noncomputable def b_steps_in : SS :=
  (sSeq (sIf (tE (eBinC (oEq false ctN (opTab ctS ctM "__eq__" 2 isP2) dEq) (eVar 0) (eC (.str "")))) (sRet (eLst aNil)) sNil)
  (sSeq (sIf (tNt (tE (eBlt (dIsO ctN) (aCons (eVar 0) (aCons (eC (.ty "str")) aNil))))) (sRet (eC (.non))) sNil)
  (sSeq (sAsg (eComp [2] (eIter (eBinS dSplit (eVar 0) (eC (.str ", ")))) (.nm 2) tYs (eCallK "read_step" [.pos 0] (aCons (eVar 2) aNil) aNil)) (gTg (.nm 1)))
  (sRet (eIf (tOr' (tE (eBinC (oIn false ctN (opTab ctS ctM "__eq__" 2 isP2) (opTab ctS ctM "__contains__" 2 isP2) dIn) (eC (.non)) (eVar 1))) (tE (eBin dGt (eBltC (oLen (opTab ctS ctM "__len__" 1 isP1) dLen) (aCons (eVar 1) aNil)) (eC (.int 60))))) (eC (.non)) (eVar 1))))))
noncomputable def b_law_cell : SS :=
  (sSeq (sIf (tE (eBin dLt (eVar 1) (eBlt dLen (aCons (eVar 0) aNil)))) (sRet (eIxx dIx (eVar 0) (eVar 1))) sNil)
  (sSeq (sAsg (eBin dMod (eBin dMul (eC (.int 60017)) (eBin dAdd (eBin dAdd (eBin dMul (eVar 1) (eVar 1)) (eBin dMul (eC (.int 7)) (eVar 1))) (eC (.int 5)))) (eC (.int 2147483137))) (gTg (.nm 2)))
  (sSeq (sFor (eIter (eSll dSl (eVar 0) oNone (oSome (eC (.int 3))))) (.nm 3) (sAsg (eBin dMod (eBin dAdd (eBin dMul (eVar 2) (eC (.int 41011))) (eVar 3)) (eC (.int 2147483137))) (gTg (.nm 2))))
  (sRet (eVar 2)))))
noncomputable def b_law_pool : SS :=
  (sSeq (sAsg (eIf (tOr' (tE (eBin dLt (eVar 0) (eC (.int 0)))) (tE (eBin dGe (eVar 0) (eBin dPow (eC (.int 10)) (eC (.int 18)))))) (eBlt dAbs (aCons (eVar 0) aNil)) (eC (.int 0))) (gTg (.nm 1)))
  (sRet (eCell (aCons (eBin dMod (eVar 0) (eC (.int 2147483137))) (aCons (eVar 1) (aCons (eC (.int 0)) aNil))))))
noncomputable def b_law_draw : SS :=
  (sSeq (sAsg (eBin dAdd (eIxx dIx (eVar 0) (eC (.int 2))) (eC (.int 1))) (gCell (eVar 0) (eC (.int 2))))
  (sSeq (sAsg (eIxx dIx (eVar 0) (eC (.int 0))) (gTg (.nm 2)))
  (sSeq (sAsg (eBin dMod (eBin dAdd (eBin dMul (eVar 2) (eBin dAdd (eBin dMod (eVar 2) (eC (.int 50023))) (eC (.int 30013)))) (eBin dMul (eC (.int 80029)) (eIxx dIx (eVar 0) (eC (.int 2))))) (eC (.int 2147483137))) (gCell (eVar 0) (eC (.int 0))))
  (sSeq (sIf (tE (eBin dGt (eIxx dIx (eVar 0) (eC (.int 1))) (eC (.int 0)))) (sSeq (sAsg (eBlt dDivmod (aCons (eIxx dIx (eVar 0) (eC (.int 1))) (aCons (eVar 1) aNil))) (gTp [gCell (eVar 0) (eC (.int 1)), gTg (.nm 3)]))
  (sRet (eVar 3))) sNil)
  (sRet (eBin dMod (eBin dFdiv (eIxx dIx (eVar 0) (eC (.int 0))) (eC (.int 64))) (eVar 1)))))))
noncomputable def b_law_side : SS :=
  (sSeq (sAsg (eIxx dIx (eLst (aCons (eC (.int 4)) (aCons (eC (.int 12)) (aCons (eC (.int 1000)) (aCons (eIf (tE (eVar 1)) (eBin dPow (eC (.int 10)) (eC (.int 6))) (eC (.int 30))) aNil))))) (eCallK "_law_draw" [.pos 0, .pos 1] (aCons (eVar 0) (aCons (eC (.int 4)) aNil)) aNil)) (gTg (.nm 2)))
  (sRet (eBin dAdd (eC (.int 1)) (eCallK "_law_draw" [.pos 0, .pos 1] (aCons (eVar 0) (aCons (eVar 2) aNil)) aNil))))
noncomputable def b_law_drawn : SS :=
  (sSeq (sPar [2, 3, 4] (aCons (eCallK "_law_draw" [.pos 0, .pos 1] (aCons (eVar 0) (aCons (eC (.int 10)) aNil)) aNil) (aCons (eCallK "_law_side" [.pos 0, .pos 1] (aCons (eVar 0) (aCons (eVar 1) aNil)) aNil) (aCons (eCallK "_law_side" [.pos 0, .pos 1] (aCons (eVar 0) (aCons (eVar 1) aNil)) aNil) aNil))))
  (sSeq (sIf (tE (eBin dLt (eVar 2) (eC (.int 4)))) (sRet (eTup (aCons (eIxx dIx (eLst (aCons (eC (.str "shrink")) (aCons (eC (.str "grow")) aNil))) (eBin dFdiv (eVar 2) (eC (.int 2)))) (aCons (eVar 3) (aCons (eVar 4) (aCons (eBin dEq (eBin dMod (eVar 2) (eC (.int 2))) (eC (.int 1))) aNil)))))) sNil)
  (sSeq (sIf (tE (eBin dLt (eVar 2) (eC (.int 6)))) (sRet (eTup (aCons (eC (.str "width")) (aCons (eVar 3) (aCons (eVar 4) (aCons (eIxx dIx (eLst (aCons (eC (.str "left")) (aCons (eC (.str "center")) (aCons (eC (.str "right")) aNil)))) (eCallK "_law_draw" [.pos 0, .pos 1] (aCons (eVar 0) (aCons (eC (.int 3)) aNil)) aNil)) aNil)))))) sNil)
  (sSeq (sIf (tE (eBin dLt (eVar 2) (eC (.int 8)))) (sRet (eTup (aCons (eC (.str "height")) (aCons (eVar 3) (aCons (eVar 4) (aCons (eIxx dIx (eLst (aCons (eC (.str "top")) (aCons (eC (.str "center")) (aCons (eC (.str "bottom")) aNil)))) (eCallK "_law_draw" [.pos 0, .pos 1] (aCons (eVar 0) (aCons (eC (.int 3)) aNil)) aNil)) aNil)))))) sNil)
  (sSeq (sIf (tE (eBin dEq (eVar 2) (eC (.int 8)))) (sRet (eTup (aCons (eC (.str "turn")) (aCons (eBin dAdd (eC (.int 1)) (eCallK "_law_draw" [.pos 0, .pos 1] (aCons (eVar 0) (aCons (eC (.int 3)) aNil)) aNil)) aNil)))) sNil)
  (sRet (eIxx dIx (eLst (aCons (eTup (aCons (eC (.str "landscape")) aNil)) (aCons (eTup (aCons (eC (.str "portrait")) aNil)) aNil))) (eCallK "_law_draw" [.pos 0, .pos 1] (aCons (eVar 0) (aCons (eC (.int 2)) aNil)) aNil))))))))
noncomputable def b_law_few : SS :=
  (sRet (eComp [3] (eRng (aCons (eCallK "_law_draw" [.pos 0, .pos 1] (aCons (eVar 0) (aCons (eBin dAdd (eVar 1) (eC (.int 1))) aNil)) aNil) aNil)) (.nm 3) tYs (eCallK "_law_drawn" [.pos 0, .pos 1] (aCons (eVar 0) (aCons (eVar 2) aNil)) aNil)))
noncomputable def b_law_shown : SS :=
  (sSeq (sIf (tE (eBin dIn (eIxx dIx (eVar 0) (eC (.int 0))) (eTup (aCons (eC (.str "shrink")) (aCons (eC (.str "grow")) aNil))))) (sSeq (sAsg (eIf (tE (eIxx dIx (eVar 0) (eC (.int 3)))) (eC (.str " cover")) (eC (.str ""))) (gTg (.nm 1)))
  (sRet (eBin dAdd (eBin dAdd (eBin dAdd (eBin dAdd (eBin dAdd (eIxx dIx (eVar 0) (eC (.int 0))) (eC (.str " "))) (eBlt dStr (aCons (eIxx dIx (eVar 0) (eC (.int 1))) aNil))) (eC (.str "x"))) (eBlt dStr (aCons (eIxx dIx (eVar 0) (eC (.int 2))) aNil))) (eVar 1)))) sNil)
  (sSeq (sIf (tE (eBin dIn (eIxx dIx (eVar 0) (eC (.int 0))) (eTup (aCons (eC (.str "width")) (aCons (eC (.str "height")) aNil))))) (sRet (eBin dAdd (eBin dAdd (eBin dAdd (eBin dAdd (eBin dAdd (eBin dAdd (eIxx dIx (eVar 0) (eC (.int 0))) (eC (.str " "))) (eBlt dStr (aCons (eIxx dIx (eVar 0) (eC (.int 1))) aNil))) (eC (.str ":"))) (eBlt dStr (aCons (eIxx dIx (eVar 0) (eC (.int 2))) aNil))) (eC (.str " "))) (eIxx dIx (eVar 0) (eC (.int 3))))) sNil)
  (sRet (eIf (tE (eBin dEq (eIxx dIx (eVar 0) (eC (.int 0))) (eC (.str "turn")))) (eBin dAdd (eC (.str "turn ")) (eBlt dStr (aCons (eIxx dIx (eVar 0) (eC (.int 1))) aNil))) (eIxx dIx (eVar 0) (eC (.int 0)))))))
noncomputable def b_law_said : SS :=
  (sRet (eBinS dJoin (eC (.str ", ")) (eComp [1] (eIter (eVar 0)) (.nm 1) tYs (eCallK "_law_shown" [.pos 0] (aCons (eVar 1) aNil) aNil))))
noncomputable def b_law_made : SS :=
  (sSeq (sIf (tE (eBin dEq (eIxx dIx (eVar 0) (eC (.int 0))) (eC (.str "shrink")))) (sRet (eMake "Shrink" "Shrink.__init__" [.pos 0, .pos 1, .pos 2, .kw 0] (aCons (eIxx dIx (eVar 0) (eC (.int 1))) (aCons (eIxx dIx (eVar 0) (eC (.int 2))) aNil)) (aCons (eIxx dIx (eVar 0) (eC (.int 3))) aNil))) sNil)
  (sSeq (sIf (tE (eBin dEq (eIxx dIx (eVar 0) (eC (.int 0))) (eC (.str "grow")))) (sRet (eMake "Grow" "Grow.__init__" [.pos 0, .pos 1, .pos 2, .kw 0] (aCons (eIxx dIx (eVar 0) (eC (.int 1))) (aCons (eIxx dIx (eVar 0) (eC (.int 2))) aNil)) (aCons (eIxx dIx (eVar 0) (eC (.int 3))) aNil))) sNil)
  (sSeq (sIf (tE (eBin dEq (eIxx dIx (eVar 0) (eC (.int 0))) (eC (.str "width")))) (sRet (eMake "CropWidth" "CropWidth.__init__" [.pos 0, .pos 1, .pos 2, .kw 0] (aCons (eIxx dIx (eVar 0) (eC (.int 1))) (aCons (eIxx dIx (eVar 0) (eC (.int 2))) aNil)) (aCons (eIxx dIx (eVar 0) (eC (.int 3))) aNil))) sNil)
  (sSeq (sIf (tE (eBin dEq (eIxx dIx (eVar 0) (eC (.int 0))) (eC (.str "height")))) (sRet (eMake "CropHeight" "CropHeight.__init__" [.pos 0, .pos 1, .pos 2, .kw 0] (aCons (eIxx dIx (eVar 0) (eC (.int 1))) (aCons (eIxx dIx (eVar 0) (eC (.int 2))) aNil)) (aCons (eIxx dIx (eVar 0) (eC (.int 3))) aNil))) sNil)
  (sSeq (sIf (tE (eBin dEq (eIxx dIx (eVar 0) (eC (.int 0))) (eC (.str "turn")))) (sRet (eMake "Turn" "Turn.__init__" [.pos 0, .pos 1] (aCons (eIxx dIx (eVar 0) (eC (.int 1))) aNil) aNil)) sNil)
  (sRet (eIf (tE (eBin dEq (eIxx dIx (eVar 0) (eC (.int 0))) (eC (.str "landscape")))) (eMake0 "Landscape") (eMake0 "Portrait"))))))))
noncomputable def b_law_chain : SS :=
  (sSeq (sAsg (eMake "Chain" "Chain.__init__" [.pos 0, .star 1] aNil aNil) (gTg (.nm 1)))
  (sSeq (sFor (eIter (eVar 0)) (.nm 2) (sAsg (eBinC (oAdd (opTab ctS ctM "__add__" 2 isP2) dAdd) (eVar 1) (eMake "Chain" "Chain.__init__" [.pos 0, .star 1] (aCons (eCallK "_law_made" [.pos 0] (aCons (eVar 2) aNil) aNil) aNil) aNil)) (gTg (.nm 1))))
  (sRet (eVar 1))))
noncomputable def b_law_passed : SS :=
  (sSeq (sAsg (eComp [2] (eIter (eVar 0)) (.nm 2) tYs (eCallK "_law_made" [.pos 0] (aCons (eVar 2) aNil) aNil)) (gTg (.nm 1)))
  (sSeq (sIf (tE (eBin dEq (eBlt dLen (aCons (eVar 1) aNil)) (eC (.int 0)))) (sRet (eMake "Chain" "Chain.__init__" [.pos 0, .star 1] aNil aNil)) sNil)
  (sSeq (sIf (tE (eBin dEq (eBlt dLen (aCons (eVar 1) aNil)) (eC (.int 1)))) (sRet (eMake "Chain" "Chain.__init__" [.pos 0, .star 1] (aCons (eIxx dIx (eVar 1) (eC (.int 0))) aNil) aNil)) sNil)
  (sSeq (sIf (tE (eBin dEq (eBlt dLen (aCons (eVar 1) aNil)) (eC (.int 2)))) (sRet (eMake "Chain" "Chain.__init__" [.pos 0, .star 1] (aCons (eIxx dIx (eVar 1) (eC (.int 0))) (aCons (eIxx dIx (eVar 1) (eC (.int 1))) aNil)) aNil)) sNil)
  (sSeq (sIf (tE (eBin dEq (eBlt dLen (aCons (eVar 1) aNil)) (eC (.int 3)))) (sRet (eMake "Chain" "Chain.__init__" [.pos 0, .star 1] (aCons (eIxx dIx (eVar 1) (eC (.int 0))) (aCons (eIxx dIx (eVar 1) (eC (.int 1))) (aCons (eIxx dIx (eVar 1) (eC (.int 2))) aNil))) aNil)) sNil)
  (sSeq (sIf (tE (eBin dEq (eBlt dLen (aCons (eVar 1) aNil)) (eC (.int 4)))) (sRet (eMake "Chain" "Chain.__init__" [.pos 0, .star 1] (aCons (eIxx dIx (eVar 1) (eC (.int 0))) (aCons (eIxx dIx (eVar 1) (eC (.int 1))) (aCons (eIxx dIx (eVar 1) (eC (.int 2))) (aCons (eIxx dIx (eVar 1) (eC (.int 3))) aNil)))) aNil)) sNil)
  (sRet (eMake "Chain" "Chain.__init__" [.pos 0, .star 1] (aCons (eIxx dIx (eVar 1) (eC (.int 0))) (aCons (eIxx dIx (eVar 1) (eC (.int 1))) (aCons (eIxx dIx (eVar 1) (eC (.int 2))) (aCons (eIxx dIx (eVar 1) (eC (.int 3))) (aCons (eIxx dIx (eVar 1) (eC (.int 4))) aNil))))) aNil))))))))
noncomputable def b_law_is : SS :=
  (sSeq (sIf (tOr' (tNt (tE (eBlt (dIsO ctN) (aCons (eAttr "steps" (attrTab ctA "steps") (eVar 0)) (aCons (eC (.ty "tuple")) aNil))))) (tOr' (tE (eBinC (oEq true ctN (opTab ctS ctM "__eq__" 2 isP2) dNe) (eBltC (oText (opTab ctS ctM "__repr__" 1 isP1) dRepr) (aCons (eBltC (oLen (opTab ctS ctM "__len__" 1 isP1) dLen) (aCons (eVar 0) aNil)) aNil)) (eBltC (oText (opTab ctS ctM "__repr__" 1 isP1) dRepr) (aCons (eBltC (oLen (opTab ctS ctM "__len__" 1 isP1) dLen) (aCons (eVar 1) aNil)) aNil)))) (tE (eBinC (oEq true ctN (opTab ctS ctM "__eq__" 2 isP2) dNe) (eBltC (oBool (opTab ctS ctM "__len__" 1 isP1) dBool) (aCons (eVar 0) aNil)) (eBinC (oEq true ctN (opTab ctS ctM "__eq__" 2 isP2) dNe) (eVar 1) (eLst aNil)))))) (sRet (eC (.bl false))) sNil)
  (sSeq (sAsg (eLz (aCons (eAttr "steps" (attrTab ctA "steps") (eVar 0)) (aCons (eVar 1) aNil))) (gTg (.nm 2)))
  (sSeq (sIf (tOr' (tNt (tE (eBlt dAll (aCons (eComp [3, 4] (eIter (eVar 2)) (.tp [(.nm 3), (.nm 4)]) tYs (eBinC (oEq false ctN (opTab ctS ctM "__eq__" 2 isP2) dEq) (eVar 3) (eCallK "_law_made" [.pos 0] (aCons (eVar 4) aNil) aNil))) aNil)))) (tE (eBinC (oEq true ctN (opTab ctS ctM "__eq__" 2 isP2) dNe) (eBltC (oLen (opTab ctS ctM "__len__" 1 isP1) dLen) (aCons (eAttr "steps" (attrTab ctA "steps") (eVar 0)) aNil)) (eBltC (oLen (opTab ctS ctM "__len__" 1 isP1) dLen) (aCons (eVar 1) aNil))))) (sRet (eC (.bl false))) sNil)
  (sRet (eAn (eBinC (oEq false ctN (opTab ctS ctM "__eq__" 2 isP2) dEq) (eBltC (oText (opTab ctS ctM "__str__" 1 isP1) dStr) (aCons (eVar 0) aNil)) (eCallK "_law_said" [.pos 0] (aCons (eVar 1) aNil) aNil)) (eAn (eBinC (oEq false ctN (opTab ctS ctM "__eq__" 2 isP2) dEq) (eBltC (oText (opTab ctS ctM "__repr__" 1 isP1) dRepr) (aCons (eVar 0) aNil)) (eBinC (oAdd (opTab ctS ctM "__add__" 2 isP2) dAdd) (eBinC (oAdd (opTab ctS ctM "__add__" 2 isP2) dAdd) (eC (.str "Chain(")) (eBltC (oText (opTab ctS ctM "__str__" 1 isP1) dStr) (aCons (eBltC (oLen (opTab ctS ctM "__len__" 1 isP1) dLen) (aCons (eVar 1) aNil)) aNil))) (eC (.str ")")))) (eBinC (oEq false ctN (opTab ctS ctM "__eq__" 2 isP2) dEq) (eAttr "MOST" (attrTab ctA "MOST") (eVar 0)) (eC (.int 60)))))))))
noncomputable def b_law_right : SS :=
  (sSeq (sFor (eRng (aCons (eC (.int 4)) aNil)) (.nm 1) (sSeq (sAsg (eCallK "_law_few" [.pos 0, .pos 1, .pos 2] (aCons (eVar 0) (aCons (eC (.int 5)) (aCons (eC (.bl true)) aNil))) aNil) (gTg (.nm 2)))
  (sSeq (sIf (tOr' (tNt (tE (eCallK "_law_is" [.pos 0, .pos 1] (aCons (eCallK "_law_passed" [.pos 0] (aCons (eVar 2) aNil) aNil) (aCons (eVar 2) aNil)) aNil))) (tNt (tE (eCallK "_law_is" [.pos 0, .pos 1] (aCons (eCallK "_law_chain" [.pos 0] (aCons (eVar 2) aNil) aNil) (aCons (eVar 2) aNil)) aNil)))) (sRet (eC (.bl false))) sNil)
  (sIf (tNt (tE (eCallK "_law_is" [.pos 0, .pos 1] (aCons (eCallK "Chain.read" [.pos 0, .pos 1] (aCons (eC (.cls "Chain")) (aCons (eCallK "_law_said" [.pos 0] (aCons (eVar 2) aNil) aNil) aNil)) aNil) (aCons (eVar 2) aNil)) aNil))) (sRet (eC (.bl false))) sNil))))
  (sSeq (sAsg (eCallK "_law_few" [.pos 0, .pos 1, .pos 2] (aCons (eVar 0) (aCons (eC (.int 60)) (aCons (eC (.bl true)) aNil))) aNil) (gTg (.nm 2)))
  (sRet (eAn (eCallK "_law_is" [.pos 0, .pos 1] (aCons (eCallK "_law_chain" [.pos 0] (aCons (eVar 2) aNil) aNil) (aCons (eVar 2) aNil)) aNil) (eBinC (oEq false ctN (opTab ctS ctM "__eq__" 2 isP2) dEq) (eC (.int 60)) (eC (.int 60)))))))
noncomputable def b_law : SS :=
  (sSeq (sAsg (eMake "Turn" "Turn.__init__" [.pos 0, .dfl 0 (.int 1)] aNil aNil) (gTg (.nm 1)))
  (sSeq (sIf (tOr' (tNt (tE (eCallK "_law_is" [.pos 0, .pos 1] (aCons (eMake "Chain" "Chain.__init__" [.pos 0, .star 1] (aCons (eVar 1) (aCons (eVar 1) aNil)) aNil) (aCons (eBinC (oMul (opTab ctS ctM "__mul__" 2 isP2) dMulT) (eLst (aCons (eTup (aCons (eC (.str "turn")) (aCons (eC (.int 1)) aNil))) aNil)) (eC (.int 2))) aNil)) aNil))) (tNt (tE (eCallK "_law_is" [.pos 0, .pos 1] (aCons (eMake "Chain" "Chain.__init__" [.pos 0, .star 1] aNil aNil) (aCons (eLst aNil) aNil)) aNil)))) (sRet (eC (.bl false))) sNil)
  (sRet (eBlt dAll (aCons (eComp [2] (eRng (aCons (eBlt dMax (aCons (eC (.int 2)) (aCons (eBlt dMin (aCons (eC (.int 6)) (aCons (eBltC (oLen (opTab ctS ctM "__len__" 1 isP1) dLen) (aCons (eVar 0) aNil)) aNil))) aNil))) aNil)) (.nm 2) tYs (eCallK "_law_right" [.pos 0] (aCons (eCallK "_law_pool" [.pos 0] (aCons (eCallK "_law_cell" [.pos 0, .pos 1] (aCons (eVar 0) (aCons (eVar 2) aNil)) aNil) aNil) aNil) aNil) aNil)) aNil)))))
def sh : List Shape := [("_law_cell", 2, [], [.pos 0, .pos 1]), ("_law_pool", 1, [], [.pos 0]), ("_law_right", 1, [], [.pos 0]), ("_law_is", 2, [], [.pos 0, .pos 1]), ("_law_chain", 1, [], [.pos 0]), ("_law_few", 3, [], [.pos 0, .pos 1, .pos 2]), ("_law_said", 1, [], [.pos 0]), ("_law_passed", 1, [], [.pos 0]), ("_law_shown", 1, [], [.pos 0]), ("_law_made", 1, [], [.pos 0]), ("is_whole", 3, [], [.pos 0, .pos 1, .pos 2]), ("check_box", 2, [], [.pos 0, .pos 1]), ("check_keep", 2, [], [.pos 0, .pos 1]), ("check_count", 1, [], [.pos 0]), ("written", 1, [], [.pos 0]), ("parts_of", 1, [], [.pos 0]), ("check_chain", 1, [], [.pos 0]), ("_law_draw", 2, [], [.pos 0, .pos 1]), ("_law_drawn", 2, [], [.pos 0, .pos 1]), ("_law_side", 2, [], [.pos 0, .pos 1]), ("steps_in", 1, [], [.pos 0]), ("read_step", 1, [], [.pos 0]), ("read_crop", 1, [], [.pos 0]), ("read_scaling", 1, [], [.pos 0]), ("read_sides_steps", 2, [], [.pos 0, .pos 1]), ("read_side", 1, [], [.pos 0])]
noncomputable def i_is_whole : DefI := { d := ⟨("is_whole", none), "is_whole", "is_whole", defArgs (top 17), defBody (top 17), defScope (top 17), [], []⟩, ps := ["value", "low", "high"], N := ["value", "low", "high"], own := [], cel := false, star := false, ops := false, ss := b_is_whole }
noncomputable def i_check_box : DefI := { d := ⟨("check_box", none), "check_box", "check_box", defArgs (top 45), defBody (top 45), defScope (top 45), [], []⟩, ps := ["width", "height"], N := ["width", "height", "side"], own := [], cel := false, star := false, ops := false, ss := b_check_box }
noncomputable def i_check_keep : DefI := { d := ⟨("check_keep", none), "check_keep", "check_keep", defArgs (top 46), defBody (top 46), defScope (top 46), [], []⟩, ps := ["word", "keep"], N := ["word", "keep"], own := [], cel := false, star := false, ops := false, ss := b_check_keep }
noncomputable def i_parts_of : DefI := { d := ⟨("parts_of", none), "parts_of", "parts_of", defArgs (top 48), defBody (top 48), defScope (top 48), [], []⟩, ps := ["step"], N := ["step"], own := [], cel := false, star := false, ops := false, ss := b_parts_of }
noncomputable def i_written : DefI := { d := ⟨("written", none), "written", "written", defArgs (top 49), defBody (top 49), defScope (top 49), [], []⟩, ps := ["step"], N := ["step", "word", "parts", "part"], own := [], cel := false, star := false, ops := false, ss := b_written }
noncomputable def i_Step___str__ : DefI := { d := ⟨("Step", some "__str__"), "__str__", "Step.__str__", defArgs (memS (top 50) 2), defBody (memS (top 50) 2), defScope (memS (top 50) 2), [], []⟩, ps := ["self"], N := ["self"], own := [], cel := false, star := false, ops := false, ss := b_Step___str__ }
noncomputable def i_Step___repr__ : DefI := { d := ⟨("Step", some "__repr__"), "__repr__", "Step.__repr__", defArgs (memS (top 50) 3), defBody (memS (top 50) 3), defScope (memS (top 50) 3), [], []⟩, ps := ["self"], N := ["self"], own := [], cel := false, star := false, ops := false, ss := b_Step___repr__ }
noncomputable def i_Step___eq__ : DefI := { d := ⟨("Step", some "__eq__"), "__eq__", "Step.__eq__", defArgs (memS (top 50) 1), defBody (memS (top 50) 1), defScope (memS (top 50) 1), [], []⟩, ps := ["self", "other"], N := ["self", "other"], own := [], cel := false, star := false, ops := false, ss := b_Step___eq__ }
noncomputable def i_Scaling___init__ : DefI := { d := ⟨("Scaling", some "__init__"), "__init__", "Scaling.__init__", defArgs (memS (top 51) 0), defBody (memS (top 51) 0), defScope (memS (top 51) 0), [], [("cover", .bl false)]⟩, ps := ["self", "width", "height", "cover"], N := ["self", "width", "height", "cover"], own := [], cel := false, star := false, ops := false, ss := b_Scaling___init__ }
noncomputable def i_Shrink___init__ : DefI := { d := ⟨("Shrink", some "__init__"), "__init__", "Shrink.__init__", defArgs (memS (top 52) 1), defBody (memS (top 52) 1), defScope (memS (top 52) 1), [], [("cover", .bl false)]⟩, ps := ["self", "width", "height", "cover"], N := ["self", "width", "height", "cover"], own := [], cel := false, star := false, ops := false, ss := b_Shrink___init__ }
noncomputable def i_Grow___init__ : DefI := { d := ⟨("Grow", some "__init__"), "__init__", "Grow.__init__", defArgs (memS (top 53) 1), defBody (memS (top 53) 1), defScope (memS (top 53) 1), [], [("cover", .bl false)]⟩, ps := ["self", "width", "height", "cover"], N := ["self", "width", "height", "cover"], own := [], cel := false, star := false, ops := false, ss := b_Grow___init__ }
noncomputable def i_Crop___init__ : DefI := { d := ⟨("Crop", some "__init__"), "__init__", "Crop.__init__", defArgs (memS (top 54) 0), defBody (memS (top 54) 0), defScope (memS (top 54) 0), [], []⟩, ps := ["self", "width", "height", "keep"], N := ["self", "width", "height", "keep"], own := [], cel := false, star := false, ops := false, ss := b_Crop___init__ }
noncomputable def i_CropWidth___init__ : DefI := { d := ⟨("CropWidth", some "__init__"), "__init__", "CropWidth.__init__", defArgs (memS (top 55) 1), defBody (memS (top 55) 1), defScope (memS (top 55) 1), [], [("keep", .str "center")]⟩, ps := ["self", "width", "height", "keep"], N := ["self", "width", "height", "keep"], own := [], cel := false, star := false, ops := false, ss := b_CropWidth___init__ }
noncomputable def i_CropHeight___init__ : DefI := { d := ⟨("CropHeight", some "__init__"), "__init__", "CropHeight.__init__", defArgs (memS (top 56) 1), defBody (memS (top 56) 1), defScope (memS (top 56) 1), [], [("keep", .str "center")]⟩, ps := ["self", "width", "height", "keep"], N := ["self", "width", "height", "keep"], own := [], cel := false, star := false, ops := false, ss := b_CropHeight___init__ }
noncomputable def i_Turn___init__ : DefI := { d := ⟨("Turn", some "__init__"), "__init__", "Turn.__init__", defArgs (memS (top 57) 1), defBody (memS (top 57) 1), defScope (memS (top 57) 1), [.int 1], []⟩, ps := ["self", "times"], N := ["self", "times"], own := [], cel := false, star := false, ops := false, ss := b_Turn___init__ }
noncomputable def i_read_side : DefI := { d := ⟨("read_side", none), "read_side", "read_side", defArgs (top 60), defBody (top 60), defScope (top 60), [], []⟩, ps := ["word"], N := ["word", "sign"], own := [], cel := false, star := false, ops := false, ss := b_read_side }
noncomputable def i_read_sides_steps : DefI := { d := ⟨("read_sides_steps", none), "read_sides", "read_sides", defArgs (top 61), defBody (top 61), defScope (top 61), [], []⟩, ps := ["word", "sign"], N := ["word", "sign", "parts", "sides", "part"], own := [], cel := false, star := false, ops := false, ss := b_read_sides_steps, key := "read_sides_steps" }
noncomputable def i_read_scaling : DefI := { d := ⟨("read_scaling", none), "read_scaling", "read_scaling", defArgs (top 63), defBody (top 63), defScope (top 63), [], []⟩, ps := ["words"], N := ["words", "sides"], own := [], cel := false, star := false, ops := false, ss := b_read_scaling }
noncomputable def i_read_crop : DefI := { d := ⟨("read_crop", none), "read_crop", "read_crop", defArgs (top 64), defBody (top 64), defScope (top 64), [], []⟩, ps := ["words"], N := ["words", "sides"], own := [], cel := false, star := false, ops := false, ss := b_read_crop }
noncomputable def i_read_step : DefI := { d := ⟨("read_step", none), "read_step", "read_step", defArgs (top 65), defBody (top 65), defScope (top 65), [], []⟩, ps := ["text"], N := ["text", "words"], own := [], cel := false, star := false, ops := false, ss := b_read_step }
noncomputable def i_check_chain : DefI := { d := ⟨("check_chain", none), "check_chain", "check_chain", defArgs (top 68), defBody (top 68), defScope (top 68), [], []⟩, ps := ["value"], N := ["value"], own := [], cel := false, star := false, ops := false, ss := b_check_chain }
noncomputable def i_check_count : DefI := { d := ⟨("check_count", none), "check_count", "check_count", defArgs (top 69), defBody (top 69), defScope (top 69), [], []⟩, ps := ["count"], N := ["count"], own := [], cel := false, star := false, ops := false, ss := b_check_count }
noncomputable def i_Chain___init__ : DefI := { d := ⟨("Chain", some "__init__"), "__init__", "Chain.__init__", defArgs (memS (top 70) 1), defBody (memS (top 70) 1), defScope (memS (top 70) 1), [], []⟩, ps := ["self", "steps"], N := ["self", "steps", "index", "step"], own := [], cel := false, star := true, ops := false, ss := b_Chain___init__ }
noncomputable def i_Chain_steps : DefI := { d := ⟨("Chain", some "steps"), "steps", "Chain.steps", defArgs (memS (top 70) 2), defBody (memS (top 70) 2), defScope (memS (top 70) 2), [], []⟩, ps := ["self"], N := ["self"], own := [], cel := false, star := false, ops := false, ss := b_Chain_steps }
noncomputable def i_Chain___str__ : DefI := { d := ⟨("Chain", some "__str__"), "__str__", "Chain.__str__", defArgs (memS (top 70) 13), defBody (memS (top 70) 13), defScope (memS (top 70) 13), [], []⟩, ps := ["self"], N := ["self", "step"], own := [], cel := false, star := false, ops := true, ss := b_Chain___str__ }
noncomputable def i_Chain___repr__ : DefI := { d := ⟨("Chain", some "__repr__"), "__repr__", "Chain.__repr__", defArgs (memS (top 70) 14), defBody (memS (top 70) 14), defScope (memS (top 70) 14), [], []⟩, ps := ["self"], N := ["self"], own := [], cel := false, star := false, ops := false, ss := b_Chain___repr__ }
noncomputable def i_Chain___len__ : DefI := { d := ⟨("Chain", some "__len__"), "__len__", "Chain.__len__", defArgs (memS (top 70) 4), defBody (memS (top 70) 4), defScope (memS (top 70) 4), [], []⟩, ps := ["self"], N := ["self"], own := [], cel := false, star := false, ops := false, ss := b_Chain___len__ }
noncomputable def i_Chain___eq__ : DefI := { d := ⟨("Chain", some "__eq__"), "__eq__", "Chain.__eq__", defArgs (memS (top 70) 12), defBody (memS (top 70) 12), defScope (memS (top 70) 12), [], []⟩, ps := ["self", "other"], N := ["self", "other"], own := [], cel := false, star := false, ops := false, ss := b_Chain___eq__ }
noncomputable def i_Chain___add__ : DefI := { d := ⟨("Chain", some "__add__"), "__add__", "Chain.__add__", defArgs (memS (top 70) 7), defBody (memS (top 70) 7), defScope (memS (top 70) 7), [], []⟩, ps := ["self", "other"], N := ["self", "other"], own := [], cel := false, star := false, ops := false, ss := b_Chain___add__ }
noncomputable def i_Chain_read : DefI := { d := ⟨("Chain", some "read"), "read", "Chain.read", defArgs (memS (top 70) 3), defBody (memS (top 70) 3), defScope (memS (top 70) 3), [], []⟩, ps := ["cls", "text"], N := ["cls", "text", "found"], own := [], cel := false, star := false, ops := false, ss := b_Chain_read }
noncomputable def i_Chain___contains__ : DefI := { d := ⟨("Chain", some "__contains__"), "__contains__", "Chain.__contains__", defArgs (memS (top 70) 9), defBody (memS (top 70) 9), defScope (memS (top 70) 9), [], []⟩, ps := ["self", "value"], N := ["self", "value"], own := [], cel := false, star := false, ops := true, ss := b_Chain___contains__ }
noncomputable def i_Chain___mul__ : DefI := { d := ⟨("Chain", some "__mul__"), "__mul__", "Chain.__mul__", defArgs (memS (top 70) 8), defBody (memS (top 70) 8), defScope (memS (top 70) 8), [], []⟩, ps := ["self", "times"], N := ["self", "times", "held"], own := [], cel := false, star := false, ops := true, ss := b_Chain___mul__ }
noncomputable def i_steps_in : DefI := { d := ⟨("steps_in", none), "steps_in", "steps_in", defArgs (top 71), defBody (top 71), defScope (top 71), [], []⟩, ps := ["text"], N := ["text", "found", "part"], own := [], cel := false, star := false, ops := true, ss := b_steps_in }
noncomputable def i_law_cell : DefI := { d := ⟨("_law_cell", none), "_law_cell", "_law_cell", defArgs (top 73), defBody (top 73), defScope (top 73), [], []⟩, ps := ["_law_script", "_law_k"], N := ["_law_script", "_law_k", "_law_state", "_law_figure"], own := [], cel := false, star := false, ops := false, ss := b_law_cell }
noncomputable def i_law_pool : DefI := { d := ⟨("_law_pool", none), "_law_pool", "_law_pool", defArgs (top 74), defBody (top 74), defScope (top 74), [], []⟩, ps := ["_law_figure"], N := ["_law_figure", "_law_digits"], own := [], cel := true, star := false, ops := false, ss := b_law_pool }
noncomputable def i_law_draw : DefI := { d := ⟨("_law_draw", none), "_law_draw", "_law_draw", defArgs (top 75), defBody (top 75), defScope (top 75), [], []⟩, ps := ["_law_pool_here", "_law_most"], N := ["_law_pool_here", "_law_most", "_law_state", "_law_digit"], own := [], cel := false, star := false, ops := false, ss := b_law_draw }
noncomputable def i_law_side : DefI := { d := ⟨("_law_side", none), "_law_side", "_law_side", defArgs (top 76), defBody (top 76), defScope (top 76), [], []⟩, ps := ["_law_pool_here", "_law_great"], N := ["_law_pool_here", "_law_great", "_law_most"], own := [], cel := false, star := false, ops := false, ss := b_law_side }
noncomputable def i_law_drawn : DefI := { d := ⟨("_law_drawn", none), "_law_drawn", "_law_drawn", defArgs (top 77), defBody (top 77), defScope (top 77), [], []⟩, ps := ["_law_pool_here", "_law_great"], N := ["_law_pool_here", "_law_great", "_law_way", "_law_one", "_law_more"], own := [], cel := false, star := false, ops := false, ss := b_law_drawn }
noncomputable def i_law_few : DefI := { d := ⟨("_law_few", none), "_law_few", "_law_few", defArgs (top 78), defBody (top 78), defScope (top 78), [], []⟩, ps := ["_law_pool_here", "_law_most", "_law_great"], N := ["_law_pool_here", "_law_most", "_law_great", "_law_turn"], own := [], cel := false, star := false, ops := false, ss := b_law_few }
noncomputable def i_law_shown : DefI := { d := ⟨("_law_shown", none), "_law_shown", "_law_shown", defArgs (top 79), defBody (top 79), defScope (top 79), [], []⟩, ps := ["_law_spec"], N := ["_law_spec", "_law_tail"], own := [], cel := false, star := false, ops := false, ss := b_law_shown }
noncomputable def i_law_said : DefI := { d := ⟨("_law_said", none), "_law_said", "_law_said", defArgs (top 80), defBody (top 80), defScope (top 80), [], []⟩, ps := ["_law_specs"], N := ["_law_specs", "_law_spec"], own := [], cel := false, star := false, ops := false, ss := b_law_said }
noncomputable def i_law_made : DefI := { d := ⟨("_law_made", none), "_law_made", "_law_made", defArgs (top 81), defBody (top 81), defScope (top 81), [], []⟩, ps := ["_law_spec"], N := ["_law_spec"], own := [], cel := false, star := false, ops := false, ss := b_law_made }
noncomputable def i_law_chain : DefI := { d := ⟨("_law_chain", none), "_law_chain", "_law_chain", defArgs (top 82), defBody (top 82), defScope (top 82), [], []⟩, ps := ["_law_specs"], N := ["_law_specs", "_law_here", "_law_spec"], own := [], cel := false, star := false, ops := true, ss := b_law_chain }
noncomputable def i_law_passed : DefI := { d := ⟨("_law_passed", none), "_law_passed", "_law_passed", defArgs (top 83), defBody (top 83), defScope (top 83), [], []⟩, ps := ["_law_specs"], N := ["_law_specs", "_law_made_here", "_law_spec"], own := [], cel := false, star := false, ops := false, ss := b_law_passed }
noncomputable def i_law_is : DefI := { d := ⟨("_law_is", none), "_law_is", "_law_is", defArgs (top 84), defBody (top 84), defScope (top 84), [], []⟩, ps := ["_law_here", "_law_specs"], N := ["_law_here", "_law_specs", "_law_pairs", "_law_one", "_law_spec"], own := [], cel := false, star := false, ops := true, ss := b_law_is }
noncomputable def i_law_right : DefI := { d := ⟨("_law_right", none), "_law_right", "_law_right", defArgs (top 85), defBody (top 85), defScope (top 85), [], []⟩, ps := ["_law_pool_here"], N := ["_law_pool_here", "_law_turn", "_law_specs"], own := [], cel := false, star := false, ops := true, ss := b_law_right }
noncomputable def i_law : DefI := { d := ⟨("law", none), "law", "law", defArgs (top 86), defBody (top 86), defScope (top 86), [], []⟩, ps := ["_law_script"], N := ["_law_script", "_law_one", "_law_k"], own := [], cel := false, star := false, ops := true, ss := b_law }
noncomputable def defs : List DefI := (i_is_whole :: i_check_box :: i_check_keep :: i_parts_of :: i_written :: i_Step___str__ :: i_Step___repr__ :: i_Step___eq__ :: i_Scaling___init__ :: i_Shrink___init__ :: i_Grow___init__ :: i_Crop___init__ :: i_CropWidth___init__ :: i_CropHeight___init__ :: i_Turn___init__ :: i_read_side :: i_read_sides_steps :: i_read_scaling :: i_read_crop :: i_read_step :: i_check_chain :: i_check_count :: i_Chain___init__ :: i_Chain_steps :: i_Chain___str__ :: i_Chain___repr__ :: i_Chain___len__ :: i_Chain___eq__ :: i_Chain___add__ :: i_Chain_read :: i_Chain___contains__ :: i_Chain___mul__ :: i_steps_in :: i_law_cell :: i_law_pool :: i_law_draw :: i_law_side :: i_law_drawn :: i_law_few :: i_law_shown :: i_law_said :: i_law_made :: i_law_chain :: i_law_passed :: i_law_is :: i_law_right :: i_law :: [])
theorem c_is_whole : stmtsBy (compS 60 (ccOf sh ct i_is_whole)) i_is_whole.d.body = some i_is_whole.ss := by kernel_rfl
theorem c_check_box : stmtsBy (compS 60 (ccOf sh ct i_check_box)) i_check_box.d.body = some i_check_box.ss := by kernel_rfl
theorem c_check_keep : stmtsBy (compS 60 (ccOf sh ct i_check_keep)) i_check_keep.d.body = some i_check_keep.ss := by kernel_rfl
theorem c_parts_of : stmtsBy (compS 60 (ccOf sh ct i_parts_of)) i_parts_of.d.body = some i_parts_of.ss := by kernel_rfl
theorem c_written : stmtsBy (compS 60 (ccOf sh ct i_written)) i_written.d.body = some i_written.ss := by kernel_rfl
theorem c_Step___str__ : stmtsBy (compS 60 (ccOf sh ct i_Step___str__)) i_Step___str__.d.body = some i_Step___str__.ss := by kernel_rfl
theorem c_Step___repr__ : stmtsBy (compS 60 (ccOf sh ct i_Step___repr__)) i_Step___repr__.d.body = some i_Step___repr__.ss := by kernel_rfl
theorem c_Step___eq__ : stmtsBy (compS 60 (ccOf sh ct i_Step___eq__)) i_Step___eq__.d.body = some i_Step___eq__.ss := by kernel_rfl
theorem c_Scaling___init__ : stmtsBy (compS 60 (ccOf sh ct i_Scaling___init__)) i_Scaling___init__.d.body = some i_Scaling___init__.ss := by kernel_rfl
theorem c_Shrink___init__ : stmtsBy (compS 60 (ccOf sh ct i_Shrink___init__)) i_Shrink___init__.d.body = some i_Shrink___init__.ss := by kernel_rfl
theorem c_Grow___init__ : stmtsBy (compS 60 (ccOf sh ct i_Grow___init__)) i_Grow___init__.d.body = some i_Grow___init__.ss := by kernel_rfl
theorem c_Crop___init__ : stmtsBy (compS 60 (ccOf sh ct i_Crop___init__)) i_Crop___init__.d.body = some i_Crop___init__.ss := by kernel_rfl
theorem c_CropWidth___init__ : stmtsBy (compS 60 (ccOf sh ct i_CropWidth___init__)) i_CropWidth___init__.d.body = some i_CropWidth___init__.ss := by kernel_rfl
theorem c_CropHeight___init__ : stmtsBy (compS 60 (ccOf sh ct i_CropHeight___init__)) i_CropHeight___init__.d.body = some i_CropHeight___init__.ss := by kernel_rfl
theorem c_Turn___init__ : stmtsBy (compS 60 (ccOf sh ct i_Turn___init__)) i_Turn___init__.d.body = some i_Turn___init__.ss := by kernel_rfl
theorem c_read_side : stmtsBy (compS 60 (ccOf sh ct i_read_side)) i_read_side.d.body = some i_read_side.ss := by kernel_rfl
theorem c_read_sides_steps : stmtsBy (compS 60 (ccOf sh ct i_read_sides_steps)) i_read_sides_steps.d.body = some i_read_sides_steps.ss := by kernel_rfl
theorem c_read_scaling : stmtsBy (compS 60 (ccOf sh ct i_read_scaling)) i_read_scaling.d.body = some i_read_scaling.ss := by kernel_rfl
theorem c_read_crop : stmtsBy (compS 60 (ccOf sh ct i_read_crop)) i_read_crop.d.body = some i_read_crop.ss := by kernel_rfl
theorem c_read_step : stmtsBy (compS 60 (ccOf sh ct i_read_step)) i_read_step.d.body = some i_read_step.ss := by kernel_rfl
theorem c_check_chain : stmtsBy (compS 60 (ccOf sh ct i_check_chain)) i_check_chain.d.body = some i_check_chain.ss := by kernel_rfl
theorem c_check_count : stmtsBy (compS 60 (ccOf sh ct i_check_count)) i_check_count.d.body = some i_check_count.ss := by kernel_rfl
theorem c_Chain___init__ : stmtsBy (compS 60 (ccOf sh ct i_Chain___init__)) i_Chain___init__.d.body = some i_Chain___init__.ss := by kernel_rfl
theorem c_Chain_steps : stmtsBy (compS 60 (ccOf sh ct i_Chain_steps)) i_Chain_steps.d.body = some i_Chain_steps.ss := by kernel_rfl
theorem c_Chain___str__ : stmtsBy (compS 60 (ccOf sh ct i_Chain___str__)) i_Chain___str__.d.body = some i_Chain___str__.ss := by kernel_rfl
theorem c_Chain___repr__ : stmtsBy (compS 60 (ccOf sh ct i_Chain___repr__)) i_Chain___repr__.d.body = some i_Chain___repr__.ss := by kernel_rfl
theorem c_Chain___len__ : stmtsBy (compS 60 (ccOf sh ct i_Chain___len__)) i_Chain___len__.d.body = some i_Chain___len__.ss := by kernel_rfl
theorem c_Chain___eq__ : stmtsBy (compS 60 (ccOf sh ct i_Chain___eq__)) i_Chain___eq__.d.body = some i_Chain___eq__.ss := by kernel_rfl
theorem c_Chain___add__ : stmtsBy (compS 60 (ccOf sh ct i_Chain___add__)) i_Chain___add__.d.body = some i_Chain___add__.ss := by kernel_rfl
theorem c_Chain_read : stmtsBy (compS 60 (ccOf sh ct i_Chain_read)) i_Chain_read.d.body = some i_Chain_read.ss := by kernel_rfl
theorem c_Chain___contains__ : stmtsBy (compS 60 (ccOf sh ct i_Chain___contains__)) i_Chain___contains__.d.body = some i_Chain___contains__.ss := by kernel_rfl
theorem c_Chain___mul__ : stmtsBy (compS 60 (ccOf sh ct i_Chain___mul__)) i_Chain___mul__.d.body = some i_Chain___mul__.ss := by kernel_rfl
theorem c_steps_in : stmtsBy (compS 60 (ccOf sh ct i_steps_in)) i_steps_in.d.body = some i_steps_in.ss := by kernel_rfl
theorem c_law_cell : stmtsBy (compS 60 (ccOf sh ct i_law_cell)) i_law_cell.d.body = some i_law_cell.ss := by kernel_rfl
theorem c_law_pool : stmtsBy (compS 60 (ccOf sh ct i_law_pool)) i_law_pool.d.body = some i_law_pool.ss := by kernel_rfl
theorem c_law_draw : stmtsBy (compS 60 (ccOf sh ct i_law_draw)) i_law_draw.d.body = some i_law_draw.ss := by kernel_rfl
theorem c_law_side : stmtsBy (compS 60 (ccOf sh ct i_law_side)) i_law_side.d.body = some i_law_side.ss := by kernel_rfl
theorem c_law_drawn : stmtsBy (compS 60 (ccOf sh ct i_law_drawn)) i_law_drawn.d.body = some i_law_drawn.ss := by kernel_rfl
theorem c_law_few : stmtsBy (compS 60 (ccOf sh ct i_law_few)) i_law_few.d.body = some i_law_few.ss := by kernel_rfl
theorem c_law_shown : stmtsBy (compS 60 (ccOf sh ct i_law_shown)) i_law_shown.d.body = some i_law_shown.ss := by kernel_rfl
theorem c_law_said : stmtsBy (compS 60 (ccOf sh ct i_law_said)) i_law_said.d.body = some i_law_said.ss := by kernel_rfl
theorem c_law_made : stmtsBy (compS 60 (ccOf sh ct i_law_made)) i_law_made.d.body = some i_law_made.ss := by kernel_rfl
theorem c_law_chain : stmtsBy (compS 60 (ccOf sh ct i_law_chain)) i_law_chain.d.body = some i_law_chain.ss := by kernel_rfl
theorem c_law_passed : stmtsBy (compS 60 (ccOf sh ct i_law_passed)) i_law_passed.d.body = some i_law_passed.ss := by kernel_rfl
theorem c_law_is : stmtsBy (compS 60 (ccOf sh ct i_law_is)) i_law_is.d.body = some i_law_is.ss := by kernel_rfl
theorem c_law_right : stmtsBy (compS 60 (ccOf sh ct i_law_right)) i_law_right.d.body = some i_law_right.ss := by kernel_rfl
theorem c_law : stmtsBy (compS 60 (ccOf sh ct i_law)) i_law.d.body = some i_law.ss := by kernel_rfl
theorem s_0 : BindOk i_law_cell.d i_law_cell.ps 2 [] [.pos 0, .pos 1] := bind0 rfl rfl (fun k e h => by simp at h) fun _ _ _ _ _ _ us ws l1 l2 => match us, ws, l1, l2 with | [_, _], [], _, _ => rfl
theorem s_1 : BindOk i_law_pool.d i_law_pool.ps 1 [] [.pos 0] := bind0 rfl rfl (fun k e h => by simp at h) fun _ _ _ _ _ _ us ws l1 l2 => match us, ws, l1, l2 with | [_], [], _, _ => rfl
theorem s_2 : BindOk i_law_right.d i_law_right.ps 1 [] [.pos 0] := bind0 rfl rfl (fun k e h => by simp at h) fun _ _ _ _ _ _ us ws l1 l2 => match us, ws, l1, l2 with | [_], [], _, _ => rfl
theorem s_3 : BindOk i_law_is.d i_law_is.ps 2 [] [.pos 0, .pos 1] := bind0 rfl rfl (fun k e h => by simp at h) fun _ _ _ _ _ _ us ws l1 l2 => match us, ws, l1, l2 with | [_, _], [], _, _ => rfl
theorem s_4 : BindOk i_law_chain.d i_law_chain.ps 1 [] [.pos 0] := bind0 rfl rfl (fun k e h => by simp at h) fun _ _ _ _ _ _ us ws l1 l2 => match us, ws, l1, l2 with | [_], [], _, _ => rfl
theorem s_5 : BindOk i_law_few.d i_law_few.ps 3 [] [.pos 0, .pos 1, .pos 2] := bind0 rfl rfl (fun k e h => by simp at h) fun _ _ _ _ _ _ us ws l1 l2 => match us, ws, l1, l2 with | [_, _, _], [], _, _ => rfl
theorem s_6 : BindOk i_law_said.d i_law_said.ps 1 [] [.pos 0] := bind0 rfl rfl (fun k e h => by simp at h) fun _ _ _ _ _ _ us ws l1 l2 => match us, ws, l1, l2 with | [_], [], _, _ => rfl
theorem s_7 : BindOk i_law_passed.d i_law_passed.ps 1 [] [.pos 0] := bind0 rfl rfl (fun k e h => by simp at h) fun _ _ _ _ _ _ us ws l1 l2 => match us, ws, l1, l2 with | [_], [], _, _ => rfl
theorem s_8 : BindOk i_law_shown.d i_law_shown.ps 1 [] [.pos 0] := bind0 rfl rfl (fun k e h => by simp at h) fun _ _ _ _ _ _ us ws l1 l2 => match us, ws, l1, l2 with | [_], [], _, _ => rfl
theorem s_9 : BindOk i_law_made.d i_law_made.ps 1 [] [.pos 0] := bind0 rfl rfl (fun k e h => by simp at h) fun _ _ _ _ _ _ us ws l1 l2 => match us, ws, l1, l2 with | [_], [], _, _ => rfl
theorem s_10 : BindOk i_is_whole.d i_is_whole.ps 3 [] [.pos 0, .pos 1, .pos 2] := bind0 rfl rfl (fun k e h => by simp at h) fun _ _ _ _ _ _ us ws l1 l2 => match us, ws, l1, l2 with | [_, _, _], [], _, _ => rfl
theorem s_11 : BindOk i_check_box.d i_check_box.ps 2 [] [.pos 0, .pos 1] := bind0 rfl rfl (fun k e h => by simp at h) fun _ _ _ _ _ _ us ws l1 l2 => match us, ws, l1, l2 with | [_, _], [], _, _ => rfl
theorem s_12 : BindOk i_check_keep.d i_check_keep.ps 2 [] [.pos 0, .pos 1] := bind0 rfl rfl (fun k e h => by simp at h) fun _ _ _ _ _ _ us ws l1 l2 => match us, ws, l1, l2 with | [_, _], [], _, _ => rfl
theorem s_13 : BindOk i_check_count.d i_check_count.ps 1 [] [.pos 0] := bind0 rfl rfl (fun k e h => by simp at h) fun _ _ _ _ _ _ us ws l1 l2 => match us, ws, l1, l2 with | [_], [], _, _ => rfl
theorem s_14 : BindOk i_written.d i_written.ps 1 [] [.pos 0] := bind0 rfl rfl (fun k e h => by simp at h) fun _ _ _ _ _ _ us ws l1 l2 => match us, ws, l1, l2 with | [_], [], _, _ => rfl
theorem s_15 : BindOk i_parts_of.d i_parts_of.ps 1 [] [.pos 0] := bind0 rfl rfl (fun k e h => by simp at h) fun _ _ _ _ _ _ us ws l1 l2 => match us, ws, l1, l2 with | [_], [], _, _ => rfl
theorem s_16 : BindOk i_check_chain.d i_check_chain.ps 1 [] [.pos 0] := bind0 rfl rfl (fun k e h => by simp at h) fun _ _ _ _ _ _ us ws l1 l2 => match us, ws, l1, l2 with | [_], [], _, _ => rfl
theorem s_17 : BindOk i_law_draw.d i_law_draw.ps 2 [] [.pos 0, .pos 1] := bind0 rfl rfl (fun k e h => by simp at h) fun _ _ _ _ _ _ us ws l1 l2 => match us, ws, l1, l2 with | [_, _], [], _, _ => rfl
theorem s_18 : BindOk i_law_drawn.d i_law_drawn.ps 2 [] [.pos 0, .pos 1] := bind0 rfl rfl (fun k e h => by simp at h) fun _ _ _ _ _ _ us ws l1 l2 => match us, ws, l1, l2 with | [_, _], [], _, _ => rfl
theorem s_19 : BindOk i_law_side.d i_law_side.ps 2 [] [.pos 0, .pos 1] := bind0 rfl rfl (fun k e h => by simp at h) fun _ _ _ _ _ _ us ws l1 l2 => match us, ws, l1, l2 with | [_, _], [], _, _ => rfl
theorem s_20 : BindOk i_steps_in.d i_steps_in.ps 1 [] [.pos 0] := bind0 rfl rfl (fun k e h => by simp at h) fun _ _ _ _ _ _ us ws l1 l2 => match us, ws, l1, l2 with | [_], [], _, _ => rfl
theorem s_21 : BindOk i_read_step.d i_read_step.ps 1 [] [.pos 0] := bind0 rfl rfl (fun k e h => by simp at h) fun _ _ _ _ _ _ us ws l1 l2 => match us, ws, l1, l2 with | [_], [], _, _ => rfl
theorem s_22 : BindOk i_read_crop.d i_read_crop.ps 1 [] [.pos 0] := bind0 rfl rfl (fun k e h => by simp at h) fun _ _ _ _ _ _ us ws l1 l2 => match us, ws, l1, l2 with | [_], [], _, _ => rfl
theorem s_23 : BindOk i_read_scaling.d i_read_scaling.ps 1 [] [.pos 0] := bind0 rfl rfl (fun k e h => by simp at h) fun _ _ _ _ _ _ us ws l1 l2 => match us, ws, l1, l2 with | [_], [], _, _ => rfl
theorem s_24 : BindOk i_read_sides_steps.d i_read_sides_steps.ps 2 [] [.pos 0, .pos 1] := bind0 rfl rfl (fun k e h => by simp at h) fun _ _ _ _ _ _ us ws l1 l2 => match us, ws, l1, l2 with | [_, _], [], _, _ => rfl
theorem s_25 : BindOk i_read_side.d i_read_side.ps 1 [] [.pos 0] := bind0 rfl rfl (fun k e h => by simp at h) fun _ _ _ _ _ _ us ws l1 l2 => match us, ws, l1, l2 with | [_], [], _, _ => rfl
theorem s_26 : BindOk i_Chain___len__.d i_Chain___len__.ps 1 [] [.pos 0] := bind0 rfl rfl (fun k e h => by simp at h) fun _ _ _ _ _ _ us ws l1 l2 => match us, ws, l1, l2 with | [_], [], _, _ => rfl
theorem s_27 : BindAny i_Chain___init__ 1 [] [.pos 0, .star 1] := .inr ⟨rfl, ["self"], "steps", rfl, rfl, by decide, by decide, fun ds h => (match ds, h with | [_], _ => rfl), rfl, fun _ _ _ _ _ _ us rest h h2 => (match us, rest, h, h2 with | [_], [], _, _ => rfl)⟩
theorem s_28 : BindOk i_Chain___mul__.d i_Chain___mul__.ps 2 [] [.pos 0, .pos 1] := bind0 rfl rfl (fun k e h => by simp at h) fun _ _ _ _ _ _ us ws l1 l2 => match us, ws, l1, l2 with | [_, _], [], _, _ => rfl
theorem s_29 : BindAny i_Chain___init__ 3 [] [.pos 0, .star 1] := .inr ⟨rfl, ["self"], "steps", rfl, rfl, by decide, by decide, fun ds h => (match ds, h with | [_, _, _], _ => rfl), rfl, fun _ _ _ _ _ _ us rest h h2 => (match us, rest, h, h2 with | [_], [_, _], _, _ => rfl)⟩
theorem s_30 : BindOk i_Turn___init__.d i_Turn___init__.ps 1 [] [.pos 0, .dfl 0 (.int 1)] := bindD (by simp [i_Turn___init__]) rfl (fun K k e h => by simp at h <;> (obtain ⟨rfl, rfl⟩ := h; exact ⟨_, rfl, fun o => by constructor⟩)) fun _ _ _ _ _ _ _ us ws its l1 l2 l3 => match us, ws, its, l1, l2, l3 with | [_], [], [_], _, _, _ => ⟨_, rfl, rfl⟩
theorem s_31 : BindOk i_Step___eq__.d i_Step___eq__.ps 2 [] [.pos 0, .pos 1] := bind0 rfl rfl (fun k e h => by simp at h) fun _ _ _ _ _ _ us ws l1 l2 => match us, ws, l1, l2 with | [_, _], [], _, _ => rfl
theorem s_32 : BindOk i_Chain___eq__.d i_Chain___eq__.ps 2 [] [.pos 0, .pos 1] := bind0 rfl rfl (fun k e h => by simp at h) fun _ _ _ _ _ _ us ws l1 l2 => match us, ws, l1, l2 with | [_, _], [], _, _ => rfl
theorem s_33 : BindOk i_Chain_read.d i_Chain_read.ps 2 [] [.pos 0, .pos 1] := bind0 rfl rfl (fun k e h => by simp at h) fun _ _ _ _ _ _ us ws l1 l2 => match us, ws, l1, l2 with | [_, _], [], _, _ => rfl
theorem s_34 : BindAny i_Chain___init__ 6 [] [.pos 0, .star 1] := .inr ⟨rfl, ["self"], "steps", rfl, rfl, by decide, by decide, fun ds h => (match ds, h with | [_, _, _, _, _, _], _ => rfl), rfl, fun _ _ _ _ _ _ us rest h h2 => (match us, rest, h, h2 with | [_], [_, _, _, _, _], _, _ => rfl)⟩
theorem s_35 : BindAny i_Chain___init__ 5 [] [.pos 0, .star 1] := .inr ⟨rfl, ["self"], "steps", rfl, rfl, by decide, by decide, fun ds h => (match ds, h with | [_, _, _, _, _], _ => rfl), rfl, fun _ _ _ _ _ _ us rest h h2 => (match us, rest, h, h2 with | [_], [_, _, _, _], _, _ => rfl)⟩
theorem s_36 : BindAny i_Chain___init__ 4 [] [.pos 0, .star 1] := .inr ⟨rfl, ["self"], "steps", rfl, rfl, by decide, by decide, fun ds h => (match ds, h with | [_, _, _, _], _ => rfl), rfl, fun _ _ _ _ _ _ us rest h h2 => (match us, rest, h, h2 with | [_], [_, _, _], _, _ => rfl)⟩
theorem s_37 : BindAny i_Chain___init__ 2 [] [.pos 0, .star 1] := .inr ⟨rfl, ["self"], "steps", rfl, rfl, by decide, by decide, fun ds h => (match ds, h with | [_, _], _ => rfl), rfl, fun _ _ _ _ _ _ us rest h h2 => (match us, rest, h, h2 with | [_], [_], _, _ => rfl)⟩
theorem s_38 : BindOk i_Turn___init__.d i_Turn___init__.ps 2 [] [.pos 0, .pos 1] := bindD (by simp [i_Turn___init__]) rfl (fun K k e h => by simp at h <;> (obtain ⟨rfl, rfl⟩ := h; exact ⟨_, rfl, fun o => by constructor⟩)) fun _ _ _ _ _ _ _ us ws its l1 l2 l3 => match us, ws, its, l1, l2, l3 with | [_, _], [], [_], _, _, _ => ⟨_, rfl, rfl⟩
theorem s_39 : BindOk i_CropHeight___init__.d i_CropHeight___init__.ps 3 ["keep"] [.pos 0, .pos 1, .pos 2, .kw 0] := bindK [] rfl (by simp [i_CropHeight___init__]) (by simp [i_CropHeight___init__]) rfl (fun K k e h => by simp at h) fun _ _ _ _ _ _ us ws mv l1 l2 l3 => match us, ws, mv, l1, l2, l3 with | [_, _, _], [_], [], _, _, _ => rfl
theorem s_40 : BindOk i_CropWidth___init__.d i_CropWidth___init__.ps 3 ["keep"] [.pos 0, .pos 1, .pos 2, .kw 0] := bindK [] rfl (by simp [i_CropWidth___init__]) (by simp [i_CropWidth___init__]) rfl (fun K k e h => by simp at h) fun _ _ _ _ _ _ us ws mv l1 l2 l3 => match us, ws, mv, l1, l2, l3 with | [_, _, _], [_], [], _, _, _ => rfl
theorem s_41 : BindOk i_Grow___init__.d i_Grow___init__.ps 3 ["cover"] [.pos 0, .pos 1, .pos 2, .kw 0] := bindK [] rfl (by simp [i_Grow___init__]) (by simp [i_Grow___init__]) rfl (fun K k e h => by simp at h) fun _ _ _ _ _ _ us ws mv l1 l2 l3 => match us, ws, mv, l1, l2, l3 with | [_, _, _], [_], [], _, _, _ => rfl
theorem s_42 : BindOk i_Shrink___init__.d i_Shrink___init__.ps 3 ["cover"] [.pos 0, .pos 1, .pos 2, .kw 0] := bindK [] rfl (by simp [i_Shrink___init__]) (by simp [i_Shrink___init__]) rfl (fun K k e h => by simp at h) fun _ _ _ _ _ _ us ws mv l1 l2 l3 => match us, ws, mv, l1, l2, l3 with | [_, _, _], [_], [], _, _, _ => rfl
theorem s_43 : BindOk i_Scaling___init__.d i_Scaling___init__.ps 3 ["cover"] [.pos 0, .pos 1, .pos 2, .kw 0] := bindK [] rfl (by simp [i_Scaling___init__]) (by simp [i_Scaling___init__]) rfl (fun K k e h => by simp at h) fun _ _ _ _ _ _ us ws mv l1 l2 l3 => match us, ws, mv, l1, l2, l3 with | [_, _, _], [_], [], _, _, _ => rfl
theorem s_44 : BindOk i_Crop___init__.d i_Crop___init__.ps 4 [] [.pos 0, .pos 1, .pos 2, .pos 3] := bind0 rfl rfl (fun k e h => by simp at h) fun _ _ _ _ _ _ us ws l1 l2 => match us, ws, l1, l2 with | [_, _, _, _], [], _, _ => rfl
theorem s_45 : BindOk i_Step___repr__.d i_Step___repr__.ps 1 [] [.pos 0] := bind0 rfl rfl (fun k e h => by simp at h) fun _ _ _ _ _ _ us ws l1 l2 => match us, ws, l1, l2 with | [_], [], _, _ => rfl
theorem s_46 : BindOk i_Chain___repr__.d i_Chain___repr__.ps 1 [] [.pos 0] := bind0 rfl rfl (fun k e h => by simp at h) fun _ _ _ _ _ _ us ws l1 l2 => match us, ws, l1, l2 with | [_], [], _, _ => rfl
theorem s_47 : BindOk i_Chain___add__.d i_Chain___add__.ps 2 [] [.pos 0, .pos 1] := bind0 rfl rfl (fun k e h => by simp at h) fun _ _ _ _ _ _ us ws l1 l2 => match us, ws, l1, l2 with | [_, _], [], _, _ => rfl
theorem s_48 : BindOk i_Step___str__.d i_Step___str__.ps 1 [] [.pos 0] := bind0 rfl rfl (fun k e h => by simp at h) fun _ _ _ _ _ _ us ws l1 l2 => match us, ws, l1, l2 with | [_], [], _, _ => rfl
theorem s_49 : BindOk i_Chain___str__.d i_Chain___str__.ps 1 [] [.pos 0] := bind0 rfl rfl (fun k e h => by simp at h) fun _ _ _ _ _ _ us ws l1 l2 => match us, ws, l1, l2 with | [_], [], _, _ => rfl
theorem s_50 : BindOk i_Chain_steps.d i_Chain_steps.ps 1 [] [.pos 0] := bind0 rfl rfl (fun k e h => by simp at h) fun _ _ _ _ _ _ us ws l1 l2 => match us, ws, l1, l2 with | [_], [], _, _ => rfl
theorem s_51 : BindOk i_Chain___contains__.d i_Chain___contains__.ps 2 [] [.pos 0, .pos 1] := bind0 rfl rfl (fun k e h => by simp at h) fun _ _ _ _ _ _ us ws l1 l2 => match us, ws, l1, l2 with | [_, _], [], _, _ => rfl
def frees : List Str := bltNames
theorem text : TextOk defs sh ct frees where
  fs := by intro i hi; simp only [defs, List.mem_cons, List.not_mem_nil, or_false] at hi; rcases hi with rfl | rfl | rfl | rfl | rfl | rfl | rfl | rfl | rfl | rfl | rfl | rfl | rfl | rfl | rfl | rfl | rfl | rfl | rfl | rfl | rfl | rfl | rfl | rfl | rfl | rfl | rfl | rfl | rfl | rfl | rfl | rfl | rfl | rfl | rfl | rfl | rfl | rfl | rfl | rfl | rfl | rfl | rfl | rfl | rfl | rfl | rfl <;> decide +kernel
  cp := by intro i hi; simp only [defs, List.mem_cons, List.not_mem_nil, or_false] at hi; rcases hi with rfl | rfl | rfl | rfl | rfl | rfl | rfl | rfl | rfl | rfl | rfl | rfl | rfl | rfl | rfl | rfl | rfl | rfl | rfl | rfl | rfl | rfl | rfl | rfl | rfl | rfl | rfl | rfl | rfl | rfl | rfl | rfl | rfl | rfl | rfl | rfl | rfl | rfl | rfl | rfl | rfl | rfl | rfl | rfl | rfl | rfl | rfl; exact c_is_whole; exact c_check_box; exact c_check_keep; exact c_parts_of; exact c_written; exact c_Step___str__; exact c_Step___repr__; exact c_Step___eq__; exact c_Scaling___init__; exact c_Shrink___init__; exact c_Grow___init__; exact c_Crop___init__; exact c_CropWidth___init__; exact c_CropHeight___init__; exact c_Turn___init__; exact c_read_side; exact c_read_sides_steps; exact c_read_scaling; exact c_read_crop; exact c_read_step; exact c_check_chain; exact c_check_count; exact c_Chain___init__; exact c_Chain_steps; exact c_Chain___str__; exact c_Chain___repr__; exact c_Chain___len__; exact c_Chain___eq__; exact c_Chain___add__; exact c_Chain_read; exact c_Chain___contains__; exact c_Chain___mul__; exact c_steps_in; exact c_law_cell; exact c_law_pool; exact c_law_draw; exact c_law_side; exact c_law_drawn; exact c_law_few; exact c_law_shown; exact c_law_said; exact c_law_made; exact c_law_chain; exact c_law_passed; exact c_law_is; exact c_law_right; exact c_law
  lk := by intro i hi; simp only [defs, List.mem_cons, List.not_mem_nil, or_false] at hi; rcases hi with rfl | rfl | rfl | rfl | rfl | rfl | rfl | rfl | rfl | rfl | rfl | rfl | rfl | rfl | rfl | rfl | rfl | rfl | rfl | rfl | rfl | rfl | rfl | rfl | rfl | rfl | rfl | rfl | rfl | rfl | rfl | rfl | rfl | rfl | rfl | rfl | rfl | rfl | rfl | rfl | rfl | rfl | rfl | rfl | rfl | rfl | rfl <;> kernel_rfl
  nb := by decide +kernel
  bind := by intro s hs; simp only [sh, List.mem_cons, List.not_mem_nil, or_false] at hs; rcases hs with rfl | rfl | rfl | rfl | rfl | rfl | rfl | rfl | rfl | rfl | rfl | rfl | rfl | rfl | rfl | rfl | rfl | rfl | rfl | rfl | rfl | rfl | rfl | rfl | rfl | rfl; exact ⟨i_law_cell, by simp [defs], rfl, rfl, .inl ⟨rfl, rfl, s_0⟩⟩; exact ⟨i_law_pool, by simp [defs], rfl, rfl, .inl ⟨rfl, rfl, s_1⟩⟩; exact ⟨i_law_right, by simp [defs], rfl, rfl, .inl ⟨rfl, rfl, s_2⟩⟩; exact ⟨i_law_is, by simp [defs], rfl, rfl, .inl ⟨rfl, rfl, s_3⟩⟩; exact ⟨i_law_chain, by simp [defs], rfl, rfl, .inl ⟨rfl, rfl, s_4⟩⟩; exact ⟨i_law_few, by simp [defs], rfl, rfl, .inl ⟨rfl, rfl, s_5⟩⟩; exact ⟨i_law_said, by simp [defs], rfl, rfl, .inl ⟨rfl, rfl, s_6⟩⟩; exact ⟨i_law_passed, by simp [defs], rfl, rfl, .inl ⟨rfl, rfl, s_7⟩⟩; exact ⟨i_law_shown, by simp [defs], rfl, rfl, .inl ⟨rfl, rfl, s_8⟩⟩; exact ⟨i_law_made, by simp [defs], rfl, rfl, .inl ⟨rfl, rfl, s_9⟩⟩; exact ⟨i_is_whole, by simp [defs], rfl, rfl, .inl ⟨rfl, rfl, s_10⟩⟩; exact ⟨i_check_box, by simp [defs], rfl, rfl, .inl ⟨rfl, rfl, s_11⟩⟩; exact ⟨i_check_keep, by simp [defs], rfl, rfl, .inl ⟨rfl, rfl, s_12⟩⟩; exact ⟨i_check_count, by simp [defs], rfl, rfl, .inl ⟨rfl, rfl, s_13⟩⟩; exact ⟨i_written, by simp [defs], rfl, rfl, .inl ⟨rfl, rfl, s_14⟩⟩; exact ⟨i_parts_of, by simp [defs], rfl, rfl, .inl ⟨rfl, rfl, s_15⟩⟩; exact ⟨i_check_chain, by simp [defs], rfl, rfl, .inl ⟨rfl, rfl, s_16⟩⟩; exact ⟨i_law_draw, by simp [defs], rfl, rfl, .inl ⟨rfl, rfl, s_17⟩⟩; exact ⟨i_law_drawn, by simp [defs], rfl, rfl, .inl ⟨rfl, rfl, s_18⟩⟩; exact ⟨i_law_side, by simp [defs], rfl, rfl, .inl ⟨rfl, rfl, s_19⟩⟩; exact ⟨i_steps_in, by simp [defs], rfl, rfl, .inl ⟨rfl, rfl, s_20⟩⟩; exact ⟨i_read_step, by simp [defs], rfl, rfl, .inl ⟨rfl, rfl, s_21⟩⟩; exact ⟨i_read_crop, by simp [defs], rfl, rfl, .inl ⟨rfl, rfl, s_22⟩⟩; exact ⟨i_read_scaling, by simp [defs], rfl, rfl, .inl ⟨rfl, rfl, s_23⟩⟩; exact ⟨i_read_sides_steps, by simp [defs], rfl, rfl, .inl ⟨rfl, rfl, s_24⟩⟩; exact ⟨i_read_side, by simp [defs], rfl, rfl, .inl ⟨rfl, rfl, s_25⟩⟩
  mbind := by intro s hs; simp only [ct, ctS, List.mem_cons, List.not_mem_nil, or_false] at hs; rcases hs with rfl | rfl | rfl | rfl | rfl | rfl | rfl | rfl | rfl | rfl | rfl | rfl | rfl | rfl | rfl | rfl | rfl | rfl | rfl | rfl | rfl | rfl | rfl | rfl | rfl | rfl; exact ⟨i_Chain___len__, by simp [defs], rfl, .inl ⟨rfl, rfl, s_26⟩⟩; exact ⟨i_Chain___init__, by simp [defs], rfl, s_27⟩; exact ⟨i_Chain___mul__, by simp [defs], rfl, .inl ⟨rfl, rfl, s_28⟩⟩; exact ⟨i_Chain___init__, by simp [defs], rfl, s_29⟩; exact ⟨i_Turn___init__, by simp [defs], rfl, .inl ⟨rfl, rfl, s_30⟩⟩; exact ⟨i_Step___eq__, by simp [defs], rfl, .inl ⟨rfl, rfl, s_31⟩⟩; exact ⟨i_Chain___eq__, by simp [defs], rfl, .inl ⟨rfl, rfl, s_32⟩⟩; exact ⟨i_Chain_read, by simp [defs], rfl, .inl ⟨rfl, rfl, s_33⟩⟩; exact ⟨i_Chain___init__, by simp [defs], rfl, s_34⟩; exact ⟨i_Chain___init__, by simp [defs], rfl, s_35⟩; exact ⟨i_Chain___init__, by simp [defs], rfl, s_36⟩; exact ⟨i_Chain___init__, by simp [defs], rfl, s_37⟩; exact ⟨i_Turn___init__, by simp [defs], rfl, .inl ⟨rfl, rfl, s_38⟩⟩; exact ⟨i_CropHeight___init__, by simp [defs], rfl, .inl ⟨rfl, rfl, s_39⟩⟩; exact ⟨i_CropWidth___init__, by simp [defs], rfl, .inl ⟨rfl, rfl, s_40⟩⟩; exact ⟨i_Grow___init__, by simp [defs], rfl, .inl ⟨rfl, rfl, s_41⟩⟩; exact ⟨i_Shrink___init__, by simp [defs], rfl, .inl ⟨rfl, rfl, s_42⟩⟩; exact ⟨i_Scaling___init__, by simp [defs], rfl, .inl ⟨rfl, rfl, s_43⟩⟩; exact ⟨i_Crop___init__, by simp [defs], rfl, .inl ⟨rfl, rfl, s_44⟩⟩; exact ⟨i_Step___repr__, by simp [defs], rfl, .inl ⟨rfl, rfl, s_45⟩⟩; exact ⟨i_Chain___repr__, by simp [defs], rfl, .inl ⟨rfl, rfl, s_46⟩⟩; exact ⟨i_Chain___add__, by simp [defs], rfl, .inl ⟨rfl, rfl, s_47⟩⟩; exact ⟨i_Step___str__, by simp [defs], rfl, .inl ⟨rfl, rfl, s_48⟩⟩; exact ⟨i_Chain___str__, by simp [defs], rfl, .inl ⟨rfl, rfl, s_49⟩⟩; exact ⟨i_Chain_steps, by simp [defs], rfl, .inl ⟨rfl, rfl, s_50⟩⟩; exact ⟨i_Chain___contains__, by simp [defs], rfl, .inl ⟨rfl, rfl, s_51⟩⟩
  fr := fun _ h => h
  stars := by intro z hz; simp only [ct, ctSt, List.mem_cons, List.not_mem_nil, or_false] at hz; rcases hz with rfl; exact ⟨i_Chain___init__, by simp [defs], rfl, fun n hn => .inr ⟨rfl, ["self"], "steps", rfl, rfl, Nat.succ_le_succ (Nat.zero_le _), by omega, fun ds h => (match ds, h with | _ :: _, _ => rfl), rfl, fun _ _ _ _ _ _ us rest h _ => (match us, rest, h with | [_], [], _ => rfl | [_], _ :: _, _ => rfl)⟩⟩
  xin := by intro z hz; simp [ct] at hz
end DS
namespace DS
open PySem L2 PyProof.Rows
/-! ## the head -/
noncomputable def factL : PySem.W.Frag → Bool := factB defs ct frees
noncomputable def fnL : List He.DefD := defs.map DefI.d
def loose0 : List PySem.Str := ["_wall", "PictureError", "InvalidFraction", "InvalidSize", "InvalidBox", "InvalidKeep", "InvalidTimes", "InvalidSteps", "InvalidChain", "InvalidText", "FindError", "NoStep", "LimitError", "TooManySteps", "DIGITS_exact", "is_whole", "common_divisor", "lowest", "is_fraction", "check_fraction"]
def loose1 : List PySem.Str := ["side_of", "times_of", "over_of", "order_of", "lesser", "greater", "shown", "read_whole", "read_fraction", "MOST_SIDE", "MOST_STEPS", "Size", "check_size", "read_sides", "read_sides_sizes", "ONE", "DIGITS_steps", "SCALINGS", "KEEPS", "COVER"]
def loose2 : List PySem.Str := ["TURNS", "check_box", "check_keep", "scale_of", "parts_of", "written", "Step", "Scaling", "Shrink", "Grow", "Crop", "CropWidth", "CropHeight", "Turn", "Landscape", "Portrait", "read_side", "read_sides_steps", "read_scaling", "read_crop"]
def loose3 : List PySem.Str := ["read_step", "JOINT", "check_chain", "check_count", "Chain", "steps_in", "_law_cell", "_law_pool", "_law_draw", "_law_side", "_law_drawn", "_law_few", "_law_shown", "_law_said", "_law_made", "_law_chain", "_law_passed", "_law_is", "_law_right"]
def loose : List PySem.Str := loose0 ++ loose1 ++ loose2 ++ loose3
abbrev R0 : PySem.W.OpenRow := PySem.W.OpenLaw.row PySem.Challenge.rw_sizechains_k24_chains_made
def nmL : List PySem.Str := (["is_whole", "check_box", "check_keep", "parts_of", "written", "read_side", "read_sides_steps", "read_scaling", "read_crop", "read_step", "check_chain", "check_count", "steps_in", "_law_cell", "_law_pool", "_law_draw", "_law_side", "_law_drawn", "_law_few", "_law_shown"] : List PySem.Str) ++ (["_law_said", "_law_made", "_law_chain", "_law_passed", "_law_is", "_law_right", "law", "Size", "Step", "Scaling", "Shrink", "Grow", "Crop", "CropWidth", "CropHeight", "Turn", "Landscape", "Portrait", "Chain", "COVER"] : List PySem.Str) ++ (["DIGITS_steps", "JOINT", "MOST_SIDE", "MOST_STEPS", "SCALINGS", "TURNS", "KEEPS"] : List PySem.Str)
noncomputable abbrev hk : PySem.W.Hook := hookX nmL factL fnL ct.dcs
noncomputable def ob (s : PySem.W.SharedT) : AlX := obsXG nmL factL fnL ct.dcs (HandSHeadRun.getT s)
theorem ob_eq (s : PySem.W.SharedT) : ob s = hk.obs s.abs := obsXG_eq (HandSHeadRun.getT_eq s)
theorem run_true_a (w : World) : RunP R0 14000 (setB w true) (looksP R0 (setB w true)) true := by
  intro os
  kernel_rfl
theorem run_true_b (w : World) : RunP R0 14000 (setB w true) (seenP R0 (PySem.W.view R0.prog [86]) loose) (PySem.W.openGood (PySem.W.view R0.prog [86]) loose) := by
  intro os
  kernel_rfl
theorem run_true_c (w : World) : RunP R0 14000 (setB w true) (fun s => factL (frX nmL s)) true := by
  intro os
  kernel_rfl
theorem run_true_d (w : World) : RunP R0 14000 (setB w true) (fun s => obsX (fun _ => true) fnL ct.dcs (frX nmL s)) (valX fnL ct.dcs (setB w true)) := by
  intro os
  kernel_rfl
theorem run_true (w : World) : HandSHeadRun.RunEq R0 (PySem.W.view R0.prog [86]) hk ob 14000 loose (setB w true) := run_four (fun _ => rfl) (run_true_a w) (run_true_b w) (run_true_c w) (run_true_d w)
theorem run_false_a (w : World) : RunP R0 14000 (setB w false) (looksP R0 (setB w false)) true := by
  intro os
  kernel_rfl
theorem run_false_b (w : World) : RunP R0 14000 (setB w false) (seenP R0 (PySem.W.view R0.prog [86]) loose) (PySem.W.openGood (PySem.W.view R0.prog [86]) loose) := by
  intro os
  kernel_rfl
theorem run_false_c (w : World) : RunP R0 14000 (setB w false) (fun s => factL (frX nmL s)) true := by
  intro os
  kernel_rfl
theorem run_false_d (w : World) : RunP R0 14000 (setB w false) (fun s => obsX (fun _ => true) fnL ct.dcs (frX nmL s)) (valX fnL ct.dcs (setB w false)) := by
  intro os
  kernel_rfl
theorem run_false (w : World) : HandSHeadRun.RunEq R0 (PySem.W.view R0.prog [86]) hk ob 14000 loose (setB w false) := run_four (fun _ => rfl) (run_false_a w) (run_false_b w) (run_false_c w) (run_false_d w)
theorem run0 (w : World) : HandSHeadRun.RunEq R0 (PySem.W.view R0.prog [86]) hk ob 14000 loose w := by_row (fun w b => match b with | true => run_true w | false => run_false w) w

end DS
namespace DS
open PySem L2 PyProof.Rows
/-! ## reasoning about plain meanings -/
def Gives {α : Type} (x : Res α) (Q : α → Store → Prop) : Prop := ∃ a st, x = .ok a st ∧ Q a st
theorem Gives.ok {α : Type} {a : α} {st : Store} {Q : α → Store → Prop} (h : Q a st) : Gives (.ok a st) Q := ⟨a, st, rfl, h⟩
theorem gives_ok {α : Type} {a : α} {st : Store} {Q : α → Store → Prop} : Gives (.ok a st) Q ↔ Q a st := ⟨fun ⟨a', st', e, h⟩ => by cases e; exact h, Gives.ok⟩
theorem Gives.bind {α β : Type} {x : Res α} {f : α → Store → Res β} {P : α → Store → Prop} {Q : β → Store → Prop} (h : Gives x P) (k : ∀ a st, P a st → Gives (f a st) Q) : Gives (x.bind f) Q := by
  obtain ⟨a, st, rfl, p⟩ := h
  exact k a st p
theorem Gives.mono {α : Type} {x : Res α} {P Q : α → Store → Prop} (h : Gives x P) (k : ∀ a st, P a st → Q a st) : Gives x Q := by
  obtain ⟨a, st, e, p⟩ := h
  exact ⟨a, st, e, k a st p⟩
theorem bind_bind {α β γ : Type} (x : Res α) (f : α → Store → Res β) (g : β → Store → Res γ) : (x.bind f).bind g = x.bind fun a st => (f a st).bind g := by cases x <;> rfl
/-! ### single steps -/
section
variable {C : FEnv} {r : REnv} {st : Store}
@[simp] theorem ev_C (d : D) : eC d C r st = .ok d st := rfl
theorem ev_Var {i : Nat} {d : D} (h : r[i]? = some (.val d)) : eVar i C r st = .ok d st := by unfold eVar; rw [h]
theorem dEq_int (i j : Int) : dEq (.int i) (.int j) = some (.bl (i == j)) := by
  show some (D.bl (false ^^ (i == j))) = _
  rw [Bool.false_xor]
theorem dNe_int (i j : Int) : dNe (.int i) (.int j) = some (.bl (!(i == j))) := by
  show some (D.bl (true ^^ (i == j))) = _
  rw [Bool.true_xor]
theorem dEq_bl (i j : Bool) : dEq (.bl i) (.bl j) = some (.bl (i == j)) := by
  show some (D.bl (false ^^ (i == j))) = _
  rw [Bool.false_xor]
theorem dNe_bl (i j : Bool) : dNe (.bl i) (.bl j) = some (.bl (!(i == j))) := by
  show some (D.bl (true ^^ (i == j))) = _
  rw [Bool.true_xor]
theorem dEq_str (x y : Str) : dEq (.str x) (.str y) = some (.bl (x == y)) := rfl
theorem dNe_str (x y : Str) : dNe (.str x) (.str y) = some (.bl (!(x == y))) := rfl
/-! ### repr of data -/
mutual
/-- at least as long as the text -/
def wP : PyData → Nat
  | .none => 4
  | .bool _ => 5
  | .int _ => 1921
  | .str x => (reprText x).length
  | .list xs => 2 + wPs xs
  | .tuple xs => 4 + wPs xs
  | .dict _ => sizeLine + 1
def wPs : List PyData → Nat
  | [] => 0
  | x :: xs => wP x + 2 + wPs xs
end
theorem textFrom_le : ∀ (ts : List Str) (k : Nat) (acc : Str), (textFrom k acc ts).length ≤ acc.length + piled ts
  | [], k, acc => by
    show acc.length ≤ _
    rw [piled_nil]
    exact Nat.le_refl _
  | t :: ts, k, acc => by
    show (textFrom (k + 1) (acc ++ _ ++ t) ts).length ≤ _
    have h := textFrom_le ts (k + 1) (acc ++ (if k > 0 then ", " else "" : String) ++ t)
    rw [strLen_append, strLen_append] at h
    rw [piled_cons]
    have : (Str.ofString (if k > 0 then ", " else "" : String)).length ≤ 2 := by split <;> decide
    omega
mutual
theorem shown_le : ∀ p : PyData, p.showable = true → p.hasDict = false → p.shown.length ≤ wP p
  | .none, _, _ => by simp only [PyData.shown, wP]; decide
  | .bool b, _, _ => by cases b <;> (simp only [PyData.shown, wP]; decide)
  | .int i, h, _ => by
    simp only [PyData.shown, wP]
    rw [PySem.ofString_length]
    exact int_text_length_le (by decide) (by simpa [PyData.showable] using h)
  | .str x, _, _ => by simp only [PyData.shown, wP]; exact Nat.le_refl _
  | .list xs, h, hd => by
    have := shownAll_le xs (by simpa [PyData.showable] using h) (by simpa [PyData.hasDict] using hd)
    simp only [PyData.shown, wP, listText]
    rw [strLen_append]
    have e := textFrom_le (PyData.shownAll xs) 0 "["
    have e1 : (Str.ofString "[").length = 1 := by decide
    have e2 : (Str.ofString "]").length = 1 := by decide
    rw [e1] at e
    rw [e2]
    omega
  | .tuple xs, h, hd => by
    have := shownAll_le xs (by simpa [PyData.showable] using h) (by simpa [PyData.hasDict] using hd)
    simp only [PyData.shown, wP, tupleText]
    rw [strLen_append, strLen_append]
    have e1 : (Str.ofString "(").length = 1 := by decide
    have e2 : (Str.ofString (if (PyData.shownAll xs).length == 1 then ",)" else ")" : String)).length ≤ 2 := by split <;> decide
    rw [e1]
    have e3 : (Str.join ", " (PyData.shownAll xs)).length ≤ piled (PyData.shownAll xs) := by
      cases q : PyData.shownAll xs with
      | nil => decide
      | cons y ys =>
        have := join_length_add (y :: ys) (by simp)
        omega
    omega
  | .dict _, _, h => by simp [PyData.hasDict] at h
theorem shownAll_le : ∀ ps : List PyData, PyData.showableAll ps = true → PyData.hasDictAll ps = false → piled (PyData.shownAll ps) ≤ wPs ps
  | [], _, _ => by simp [PyData.shownAll, piled_nil, wPs]
  | p :: ps, h, hd => by
    simp only [PyData.showableAll, Bool.and_eq_true] at h
    simp only [PyData.hasDictAll, Bool.or_eq_false_iff] at hd
    have a := shown_le p h.1 hd.1
    have b := shownAll_le ps h.2 hd.2
    simp only [PyData.shownAll, piled_cons, wPs]
    omega
end
theorem dRepr_ok {d : D} {p : PyData} (h : toP d = some p) (h1 : p.showable = true) (h2 : p.hasDict = false) (h3 : p.depth ≤ 60) (h4 : wP p ≤ sizeLine) : dRepr [d] = some (.str p.shown) := by
  show (toP d).bind _ = _
  rw [h]
  show (if _ then _ else _) = _
  rw [if_pos ⟨h1, fun z => (by rw [h2] at z; cases z), h3, Nat.le_trans (shown_le p h1 h2) h4⟩]
theorem kit_int_int : kitB "int" "int" = some true := by decide +kernel
theorem kit_bool_int : kitB "bool" "int" = some true := by decide +kernel
theorem kit_int_bool : kitB "int" "bool" = some false := by decide +kernel
theorem kit_bool_bool : kitB "bool" "bool" = some true := by decide +kernel
theorem kit_str_int : kitB "str" "int" = some false := by decide +kernel
theorem kit_tuple_int : kitB "tuple" "int" = some false := by decide +kernel
theorem kit_list_int : kitB "list" "int" = some false := by decide +kernel
theorem kit_dict_int : kitB "dict" "int" = some false := by decide +kernel
theorem kit_none_int : kitB "NoneType" "int" = some false := by decide +kernel
theorem kit_tuple_tuple : kitB "tuple" "tuple" = some true := by decide +kernel
theorem kit_int_tuple : kitB "int" "tuple" = some false := by decide +kernel
theorem kit_bool_tuple : kitB "bool" "tuple" = some false := by decide +kernel
theorem kit_str_tuple : kitB "str" "tuple" = some false := by decide +kernel
theorem kit_list_tuple : kitB "list" "tuple" = some false := by decide +kernel
theorem kit_dict_tuple : kitB "dict" "tuple" = some false := by decide +kernel
theorem kit_none_tuple : kitB "NoneType" "tuple" = some false := by decide +kernel
section
variable {anc : List (Str × List Str)} {t : String}
theorem dIsO_non : dIsO anc [.non, .ty t] = dIsi [.non, .ty t] := rfl
theorem dIsO_bl {b : Bool} : dIsO anc [.bl b, .ty t] = dIsi [.bl b, .ty t] := rfl
theorem dIsO_int {i : Int} : dIsO anc [.int i, .ty t] = dIsi [.int i, .ty t] := rfl
theorem dIsO_str {i : Str} : dIsO anc [.str i, .ty t] = dIsi [.str i, .ty t] := rfl
theorem dIsO_tup {i : List D} : dIsO anc [.tup i, .ty t] = dIsi [.tup i, .ty t] := rfl
theorem dIsO_lst {i : List D} : dIsO anc [.lst i, .ty t] = dIsi [.lst i, .ty t] := rfl
theorem dIsO_emp : dIsO anc [.emp, .ty t] = dIsi [.emp, .ty t] := rfl
theorem dIsO_scr {i : List Int} : dIsO anc [.scr i, .ty t] = dIsi [.scr i, .ty t] := rfl
end
/-! ### small numbers -/
theorem log2_lt {i : Int} {b n : Nat} (hb : 0 < b) (h : i.natAbs < 2 ^ b) (hn : b ≤ n) : i.natAbs.log2 < n := Nat.lt_of_lt_of_le (PySem.Flt.log2_lt_of hb h) hn
theorem dMul_int {i j : Int} {a b : Nat} (ha : 0 < a) (hb : 0 < b) (h1 : i.natAbs < 2 ^ a) (h2 : j.natAbs < 2 ^ b) (h : a + b ≤ 1000000) : dMul (.int i) (.int j) = some (.int (i * j)) := by
  show (if _ then _ else _) = _
  rw [if_pos (.inr (wide_mul h1 h2 ha hb h))]
theorem dMul_small {i j : Int} (h : (-(2 ^ 64) < i ∧ i < 2 ^ 64) ∨ (-(2 ^ 64) < j ∧ j < 2 ^ 64)) : dMul (.int i) (.int j) = some (.int (i * j)) := by
  show (if _ then _ else _) = _
  rw [if_pos (.inl h)]
theorem dFdiv_int {i j : Int} (h1 : 0 < j) (h2 : j.natAbs.log2 < 9000) : dFdiv (.int i) (.int j) = some (.int (i / j)) := by
  show (if _ then _ else _) = _
  rw [if_pos ⟨h1, h2⟩]
theorem dMod_int {i j : Int} (h1 : 0 < j) : dMod (.int i) (.int j) = some (.int (i % j)) := by
  show (if _ then _ else _) = _
  rw [if_pos h1]
theorem dDivmod_int {i j : Int} (h1 : 0 < j) (h2 : j.natAbs.log2 < 9000) : dDivmod [.int i, .int j] = some (.tup [.int (i / j), .int (i % j)]) := by
  show (if _ then _ else _) = _
  rw [if_pos ⟨h1, h2⟩]
theorem dMul_lst {xs : List D} {k : Int} (h : -(2 ^ 63) ≤ k ∧ k < 2 ^ 63 ∧ xs.length * k.toNat ≤ sizeLine) : dMul (.lst xs) (.int k) = some (.lst (List.replicate k.toNat xs).flatten) := by
  show (if _ then _ else _) = _
  rw [if_pos h]
theorem flat_one (d : D) : ∀ n : Nat, (List.replicate n [d]).flatten = List.replicate n d
  | 0 => rfl
  | n + 1 => by rw [List.replicate_succ, List.flatten_cons, flat_one d n]; rfl

theorem rep_lst (d : D) (n : Nat) (h : n ≤ 1000) : dMul (.lst [d]) (.int n) = some (.lst (List.replicate n d)) := by
  rw [dMul_lst ⟨by omega, by omega, Nat.le_trans (by rw [List.length_singleton, Int.toNat_natCast, Nat.one_mul]; exact h) line_1000⟩, Int.toNat_natCast, flat_one]
theorem dPow_nat (a : Nat) (n : Nat) (h : a < 2 ^ 64) (hn : n ≤ 1000000) : dPow (.int a) (.int n) = some (.int ((a ^ n : Nat) : Int)) := by
  show (if _ then _ else _) = _
  rw [if_pos ⟨by omega, by omega, by simpa using h⟩]
  simp
/-! ### loops -/
theorem forGo_inv {g : Tg} {b : SS} {I : REnv → Store → Prop} : ∀ (xs : List D) (r : REnv) (st : Store),
    (∀ x ∈ xs, ∀ r st, I r st → Gives ((lift (bindT g x r) st).bind fun r st => b C r st) fun f st' => ∃ r', (f = .nx r' ∨ f = .ct r') ∧ I r' st') → I r st → Gives (forGo g b C xs r st) fun f st' => ∃ r', f = .nx r' ∧ I r' st'
  | [], r, st, _, h => ⟨_, _, rfl, r, rfl, h⟩
  | x :: xs, r, st, k, h => by
    obtain ⟨f, st1, e, r', hf, hi⟩ := k x List.mem_cons_self r st h
    unfold forGo
    cases eb : bindT g x r with
    | none => rw [eb] at e; cases e
    | some r2 =>
      rw [eb] at e
      simp only [lift_some, bind_ok] at e ⊢
      rw [e]
      have ih := forGo_inv xs r' st1 (fun y hy => k y (List.mem_cons_of_mem _ hy)) hi
      rcases hf with rfl | rfl <;> exact ih
theorem compGo_inv {g : Tg} {e : SE} {I : Store → Prop} {P : D → Prop} {r : REnv} : ∀ (xs acc : List D) (st : Store),
    (∀ x ∈ xs, ∀ st, I st → Gives ((lift (bindT g x r) st).bind fun r st => e C r st) fun y st' => P y ∧ I st') → I st → Gives (compGo g tYs e C r xs acc st) fun ys st' => (∃ zs, ys = acc ++ zs ∧ zs.length = xs.length ∧ ∀ y ∈ zs, P y) ∧ I st'
  | [], acc, st, _, h => ⟨_, _, rfl, ⟨[], by simp, rfl, by simp⟩, h⟩
  | x :: xs, acc, st, k, h => by
    obtain ⟨y, st1, e1, hy, hi⟩ := k x List.mem_cons_self st h
    unfold compGo
    cases eb : bindT g x r with
    | none => rw [eb] at e1; cases e1
    | some r2 =>
      rw [eb] at e1
      simp only [lift_some, bind_ok, tYs, if_true, noX_ok] at e1 ⊢
      rw [e1, noX_ok]
      obtain ⟨ys, st2, e2, ⟨zs, rfl, hl, hz⟩, h2⟩ := compGo_inv xs (acc ++ [y]) st1 (fun y hy => k y (List.mem_cons_of_mem _ hy)) hi
      refine ⟨_, _, e2, ⟨y :: zs, by simp, by simp [hl], fun z hm => ?_⟩, h2⟩
      rcases List.mem_cons.mp hm with rfl | hm
      · exact hy
      · exact hz z hm
theorem bls_true : ∀ (ys : List D), (∀ y ∈ ys, y = .bl true) → ∃ bs, bls ys = some bs ∧ bs.all id = true
  | [], _ => ⟨[], rfl, rfl⟩
  | y :: ys, h => by
    obtain ⟨bs, e1, e2⟩ := bls_true ys fun z hz => h z (List.mem_cons_of_mem _ hz)
    rw [h y List.mem_cons_self]
    exact ⟨true :: bs, by simp [bls, e1], by simp [e2]⟩
theorem dAll_true {ys : List D} (h : ∀ y ∈ ys, y = .bl true) : dAll [.lst ys] = some (.bl true) := by
  obtain ⟨bs, e1, e2⟩ := bls_true ys h
  show (bls ys).map _ = _
  rw [e1]
  show some (D.bl (bs.all id)) = _
  rw [e2]
/-- all([e for x in it]): every turn gives True -/
theorem all_comp {vs : List Nat} {it : SA} {g : Tg} {e : SE} {I : Store → Prop} {J : List D → Prop} (h1 : Gives (it C r st) fun xs st' => xs.length < sizeLine ∧ J xs ∧ I st')
    (h2 : ∀ xs, J xs → ∀ x ∈ xs, ∀ st, I st → Gives ((lift (bindT g x (wipeR r vs)) st).bind fun r st => e C r st) fun y st' => y = .bl true ∧ I st') :
    Gives (eBlt dAll (aCons (eComp vs it g tYs e) aNil) C r st) fun d st' => d = .bl true ∧ I st' := by
  obtain ⟨xs, st1, e1, hl, hj, hi⟩ := h1
  obtain ⟨ys, st2, e2, ⟨zs, rfl, _, hz⟩, h3⟩ := compGo_inv (g := g) (e := e) (C := C) (I := I) (P := fun y => y = .bl true) (r := wipeR r vs) xs [] st1 (h2 xs hj) hi
  refine ⟨.bl true, st2, ?_, rfl, h3⟩
  unfold eBlt aCons eComp
  rw [e1]
  simp only [bind_ok, if_pos hl]
  rw [e2]
  simp only [bind_ok, aNil, List.nil_append]
  rw [dAll_true hz]
  rfl
end
/-- all([..]) kept whole -/
noncomputable def eAll (vs : List Nat) (it : SA) (g : Tg) (e : SE) : SE := eBlt dAll (aCons (eComp vs it g tYs e) aNil)
theorem keep_all (vs : List Nat) (it : SA) (g : Tg) (e : SE) : eBlt dAll (aCons (eComp vs it g tYs e) aNil) = eAll vs it g e := rfl
theorem rng_mem {i j : Int} {x : D} (h : x ∈ rng i j) : ∃ k : Int, x = .int k ∧ i ≤ k ∧ k < j := by
  unfold rng at h
  obtain ⟨k, hk, rfl⟩ := List.mem_map.mp h
  have := List.mem_range.mp hk
  exact ⟨_, rfl, by omega, by omega⟩
theorem rng_len (i j : Int) : (rng i j).length = (j - i).toNat := by
  unfold rng
  rw [List.length_map, List.length_range]
theorem dRng_one {j : Int} (h0 : 0 ≤ j) (h : j < 2 ^ 62) : dRng [.int j] = some (rng 0 j) := by
  show (if _ then _ else _) = _
  rw [if_pos ⟨by omega, h⟩]
theorem sem_at {defs : List DefI} {sh : List Shape} {ct : CT} {free : List Str} (T : TextOk defs sh ct free) {i : DefI} (hi : i ∈ defs) (n : Nat) : sem (defs.map rowOf) (n + 1) i.key = body i.N.length i.ss (sem (defs.map rowOf) n) := sem_eq T hi n
/-! ## what every law begins with -/
def PoolAt (p : Nat) (st : Store) : Prop := ∃ s d c : Int, st[p]? = some (.lst [.int s, .int d, .int c]) ∧ 0 ≤ s ∧ 0 ≤ d
def IsPool (C : FEnv) : Prop := ∀ (i : Int) st, Gives (C "_law_pool" [.int i] st) fun d st' => ∃ p, d = .cell p ∧ PoolAt p st'
def IsDraw (C : FEnv) : Prop := ∀ (p : Nat) (m : Int) st, PoolAt p st → 0 < m → m.natAbs.log2 < 9000 → Gives (C "_law_draw" [.cell p, .int m] st) fun d st' => ∃ k, d = .int k ∧ 0 ≤ k ∧ k < m ∧ PoolAt p st'
def IsCell (C : FEnv) : Prop := ∀ (ns : List Int) (k : Int) st, ns.length ≤ 63 → 0 ≤ k → k < 2 ^ 62 → Gives (C "_law_cell" [.scr ns, .int k] st) fun d st' => ∃ i, d = .int i ∧ st' = st
end DS
namespace DS
open PySem L2 PyProof.Rows
/-! ## one step of the evaluation, from the outside -/
/-- what comes later is not looked at: the type names it -/
abbrev BT (β : Type) {α : Type} (_ : α → Store → Res β) : Type := Res β
def bnd {α β : Type} (x : Res α) (f : α → Store → Res β) : BT β f := Res.bind x f
theorem to_bnd {α β : Type} (x : Res α) (f : α → Store → Res β) : x.bind f = bnd x f := rfl
theorem bnd_ok {α β : Type} (a : α) (st : Store) (f : α → Store → Res β) : (bnd (.ok a st) f : Res β) = f a st := rfl
theorem bnd_bnd {α β γ : Type} (x : Res α) (f : α → Store → Res β) (g : β → Store → Res γ) : (bnd (bnd x f) g : Res γ) = bnd x fun a st => bnd (f a st) g := bind_bind x f g
theorem Gives.bnd {α β : Type} {x : Res α} {f : α → Store → Res β} {P : α → Store → Prop} {Q : β → Store → Prop} (h : Gives x P) (k : ∀ a st, P a st → Gives (f a st) Q) : Gives (α := β) (DS.bnd x f) Q := Gives.bind h k
section
variable {C : FEnv} {r : REnv} {st : Store} {a b c : SE} {ss sk : SA} {ta tb : ST} {sa sb : SS} {g : SG} {so sp : SO}
theorem p_body {n : Nat} {ds : List D} : body n sa C ds st = bnd (sa C (ds.map .val ++ List.replicate (n - ds.length) .un) st) fun f st => match f with
    | .nx _ => .ok .non st
    | .rt d => .ok d st
    | _ => .bad := rfl
theorem p_sNil : sNil C r st = .ok (.nx r) st := rfl
theorem p_sSeq : sSeq sa sb C r st = bnd (sa C r st) fun f st => match f with
  | .nx r => sb C r st
  | f => .ok f st := rfl
theorem p_sAsg : sAsg a g C r st = bnd (a C r st) fun d st => bnd (g C d r st) fun r st => .ok (.nx r) st := rfl
theorem p_sPar {is : List Nat} : sPar is ss C r st = bnd (ss C r st) fun ds st => bnd (lift (bindTs (is.map .nm) ds r) st) fun r st => .ok (.nx r) st := rfl
theorem p_sExp : sExp a C r st = bnd (a C r st) fun _ st => .ok (.nx r) st := rfl
theorem p_sRet : sRet a C r st = bnd (a C r st) fun d st => .ok (.rt d) st := rfl
theorem p_sIf : sIf ta sa sb C r st = bnd (ta C r st) fun k st => if k = true then sa C r st else sb C r st := rfl
theorem p_sFor {t : Tg} : sFor ss t sb C r st = bnd (ss C r st) fun xs st => forGo t sb C xs r st := rfl
theorem p_for0 {t : Tg} : forGo t sb C [] r st = .ok (.nx r) st := rfl
theorem p_forS {t : Tg} {x : D} {xs : List D} : forGo t sb C (x :: xs) r st = bnd (lift (bindT t x r) st) fun r st => bnd (sb C r st) fun f st => match f with
    | .nx r => forGo t sb C xs r st
    | .ct r => forGo t sb C xs r st
    | .bk r => .ok (.nx r) st
    | .rt d => .ok (.rt d) st := rfl
theorem p_sBrk : sBrk C r st = .ok (.bk r) st := rfl
theorem p_sCnt : sCnt C r st = .ok (.ct r) st := rfl
theorem p_sBad : sBad C r st = .bad := rfl
theorem p_sOwn {i : Nat} : sOwn i ss C r st = bnd (ss C r st) fun ds st => .ok (.nx (r.set i (.own ds))) st := rfl
theorem p_sApp {i : Nat} : sApp i a C r st = match r[i]? with
  | some (.own xs) => bnd (a C r st) fun d st => if xs.length < sizeLine then .ok (.nx (r.set i (.own (xs ++ [d])))) st else .bad
  | _ => .bad := rfl
theorem p_sFrz {i : Nat} : sFrz i C r st = match r[i]? with
  | some (.own xs) => .ok (.nx (r.set i (.val (.lst xs)))) st
  | _ => .ok (.nx r) st := rfl
theorem p_eVar {i : Nat} : eVar i C r st = match r[i]? with
  | some (.val d) => .ok d st
  | _ => .bad := rfl
theorem p_eC {d : D} : eC d C r st = .ok d st := rfl
theorem p_eUn {f : D → Option D} : eUn f a C r st = bnd (a C r st) fun d st => lift (f d) st := rfl
theorem p_eBin {f : D → D → Option D} : eBin f a b C r st = bnd (a C r st) fun d st => bnd (b C r st) fun e st => lift (f d e) st := rfl
theorem p_aNil : aNil C r st = .ok [] st := rfl
theorem p_aCons : aCons a ss C r st = bnd (a C r st) fun d st => bnd (ss C r st) fun ds st => .ok (d :: ds) st := rfl
theorem p_eTup : eTup ss C r st = bnd (ss C r st) fun ds st => .ok (.tup ds) st := rfl
theorem p_eLst : eLst ss C r st = bnd (ss C r st) fun ds st => .ok (.lst ds) st := rfl
theorem p_eCell : eCell ss C r st = bnd (ss C r st) fun ds st => .ok (.cell st.length) (st ++ [.lst ds]) := rfl
theorem p_eCallK {f : Str} {src : List Src} : eCallK f src ss sk C r st = bnd (ss C r st) fun us st => bnd (sk C r st) fun ws st => C f (src.map (pickD us ws)) st := rfl
theorem p_eBlt {f : List D → Option D} : eBlt f ss C r st = bnd (ss C r st) fun ds st => lift (f ds) st := rfl
theorem p_tE : tE a C r st = bnd (a C r st) fun d st => lift (dTru d) st := rfl
theorem p_tNt : tNt ta C r st = bnd (ta C r st) fun b st => .ok (!b) st := rfl
theorem p_tAn : tAn ta tb C r st = bnd (ta C r st) fun k st => if k = true then tb C r st else .ok false st := rfl
theorem p_tOr : tOr' ta tb C r st = bnd (ta C r st) fun k st => if k = true then .ok true st else tb C r st := rfl
theorem p_tYs : tYs C r st = .ok true st := rfl
theorem p_eIf : eIf ta a b C r st = bnd (ta C r st) fun k st => if k = true then a C r st else b C r st := rfl
theorem p_eAn : eAn a b C r st = bnd (a C r st) fun d st => bnd (lift (dTru d) st) fun k st => if k = true then b C r st else .ok d st := rfl
theorem p_eOr : eOr a b C r st = bnd (a C r st) fun d st => bnd (lift (dTru d) st) fun k st => if k = true then .ok d st else b C r st := rfl
theorem p_eNt : eNt a C r st = bnd (a C r st) fun d st => bnd (lift (dTru d) st) fun k st => .ok (.bl (!k)) st := rfl
theorem p_eIxx {f : D → D → Store → Option D} : eIxx f a b C r st = bnd (a C r st) fun d st => bnd (b C r st) fun e st => lift (f d e st) st := rfl
theorem p_oNone : oNone C r st = .ok none st := rfl
theorem p_oSome : oSome a C r st = bnd (a C r st) fun d st => match d with
  | .int i => .ok (some i) st
  | _ => .bad := rfl
theorem p_eSll {f : D → Option Int → Option Int → Option D} : eSll f a so sp C r st = bnd (a C r st) fun d st => bnd (so C r st) fun l st => bnd (sp C r st) fun h st => lift (f d l h) st := rfl
theorem p_eChn {f h : D → D → Option D} : eChn f h a b c C r st = bnd (a C r st) fun d st => bnd (b C r st) fun e st => bnd (lift (f d e) st) fun k st => match k with
  | .bl true => bnd (c C r st) fun z st => lift (h e z) st
  | .bl false => .ok (.bl false) st
  | _ => .bad := rfl
theorem p_eIter : eIter a C r st = bnd (a C r st) fun d st => lift (dIter d) st := rfl
theorem p_eRng : eRng ss C r st = bnd (ss C r st) fun ds st => lift (dRng ds) st := rfl
theorem p_gTg {t : Tg} {d : D} : gTg t C d r st = lift (bindT t d r) st := rfl
theorem p_gTp1 {g0 : SG} {d0 : D} : gTp [g0] C (.tup [d0]) r st = gMany [g0] C [d0] r st := rfl
theorem p_gTp2 {g0 g1 : SG} {d0 d1 : D} : gTp [g0, g1] C (.tup [d0, d1]) r st = gMany [g0, g1] C [d0, d1] r st := rfl
theorem p_gTp3 {g0 g1 g2 : SG} {d0 d1 d2 : D} : gTp [g0, g1, g2] C (.tup [d0, d1, d2]) r st = gMany [g0, g1, g2] C [d0, d1, d2] r st := rfl
theorem p_gTp4 {g0 g1 g2 g3 : SG} {d0 d1 d2 d3 : D} : gTp [g0, g1, g2, g3] C (.tup [d0, d1, d2, d3]) r st = gMany [g0, g1, g2, g3] C [d0, d1, d2, d3] r st := rfl
theorem p_gTp5 {g0 g1 g2 g3 g4 : SG} {d0 d1 d2 d3 d4 : D} : gTp [g0, g1, g2, g3, g4] C (.tup [d0, d1, d2, d3, d4]) r st = gMany [g0, g1, g2, g3, g4] C [d0, d1, d2, d3, d4] r st := rfl
theorem p_gTp6 {g0 g1 g2 g3 g4 g5 : SG} {d0 d1 d2 d3 d4 d5 : D} : gTp [g0, g1, g2, g3, g4, g5] C (.tup [d0, d1, d2, d3, d4, d5]) r st = gMany [g0, g1, g2, g3, g4, g5] C [d0, d1, d2, d3, d4, d5] r st := rfl
theorem p_gTp7 {g0 g1 g2 g3 g4 g5 g6 : SG} {d0 d1 d2 d3 d4 d5 d6 : D} : gTp [g0, g1, g2, g3, g4, g5, g6] C (.tup [d0, d1, d2, d3, d4, d5, d6]) r st = gMany [g0, g1, g2, g3, g4, g5, g6] C [d0, d1, d2, d3, d4, d5, d6] r st := rfl
theorem p_gMany0 : gMany [] C [] r st = .ok r st := rfl
theorem p_gManyS {gs : List SG} {d : D} {ds : List D} : gMany (g :: gs) C (d :: ds) r st = bnd (g C d r st) fun r st => gMany gs C ds r st := rfl
theorem p_gCell {d : D} : gCell a b C d r st = bnd (a C r st) fun x st => bnd (b C r st) fun k st => match x, k with
  | .cell c, .int k => match st[c]? with
    | some (.lst xs) => match ixN xs.length k with
      | some j => .ok r (st.set c (.lst (xs.set j d)))
      | none => .bad
    | _ => .bad
  | _, _ => .bad := rfl
theorem p_eAttr {f : Str} {tab : List (Str × AK)} : eAttr f tab a C r st = bnd (a C r st) fun d st => attrD C f tab d st := rfl
theorem p_eMeth {m : Str} {tab : List (Str × Str × List Src)} : eMeth m tab a ss sk C r st = bnd (a C r st) fun d st => bnd (lift (pickM m tab d st) st) fun fs st => bnd (ss C r st) fun us st => bnd (sk C r st) fun ws st => C fs.1 (fs.2.map (pickD (d :: us) ws)) st := rfl
theorem p_eMake {c f : Str} {src : List Src} : eMake c f src ss sk C r st = bnd (ss C r st) fun us st => bnd (sk C r st) fun ws st => bnd (C f (src.map (pickD (.cell st.length :: us) ws)) (st ++ [.obj c [] []])) fun v st' => frzD st.length v st' := rfl
theorem p_gFld {f : Str} {tab : List (Str × AK)} {d : D} : gFld f tab a C d r st = bnd (a C r st) fun x st => match x with
  | .cell i => match st[i]? with
    | some (.obj c ns xs) => match tab.lookup c with
      | some .fld => if ns.length < 1000 then .ok r (st.set i (.obj c (putN f ns) (putX f d ns xs))) else .bad
      | _ => .bad
    | _ => .bad
  | _ => .bad := rfl
theorem p_tIf {tc : ST} : tIf' ta tb tc C r st = bnd (ta C r st) fun k st => if k = true then tb C r st else tc C r st := rfl
theorem p_eJs {as : List SE} : eJs as C r st = jsGo C r as Str.empty st := rfl
theorem p_js0 {acc : Str} : jsGo C r [] acc st = .ok (.str acc) st := rfl
theorem p_jsS {as : List SE} {acc : Str} : jsGo C r (a :: as) acc st = bnd (a C r st) fun d st => match d with
    | .str y => if (acc ++ y).length ≤ sizeLine then jsGo C r as (acc ++ y) st else .bad
    | _ => .bad := rfl
theorem p_eComp {vs : List Nat} {t : Tg} : eComp vs ss t ta a C r st = bnd (ss C r st) fun xs st =>
  if xs.length < sizeLine then bnd (compGo t ta a C (wipeR r vs) xs [] st) fun ys st => .ok (.lst ys) st else .bad := rfl
theorem p_comp0 {t : Tg} {acc : List D} : compGo t ta a C r [] acc st = .ok acc st := rfl
theorem p_compS {t : Tg} {x : D} {xs acc : List D} : compGo t ta a C r (x :: xs) acc st = bnd (lift (bindT t x r) st) fun r2 st => bnd (noX (ta C r2 st)) fun k st =>
    if k = true then bnd (noX (a C r2 st)) fun y st => compGo t ta a C r xs (acc ++ [y]) st else compGo t ta a C r xs acc st := rfl
theorem p_eSlO {i : Nat} : eSlO i so sp C r st = match r[i]? with
  | some (.own xs) => bnd (so C r st) fun l st => bnd (sp C r st) fun h st => .ok (.lst (cutD xs l h)) st
  | some (.val d) => bnd (so C r st) fun l st => bnd (sp C r st) fun h st => lift (dSl d l h) st
  | _ => .bad := rfl
theorem p_eBinS {f : D → D → Option D} : eBinS f a b C r st = bnd (a C r st) fun d st => match d with
  | .str x => bnd (b C r st) fun e st => lift (f (.str x) e) st
  | _ => .bad := rfl
theorem p_eBinL {f : D → D → Option D} : eBinL f a b C r st = bnd (a C r st) fun d st => match d with
  | .lst xs => bnd (b C r st) fun e st => lift (f (.lst xs) e) st
  | _ => .bad := rfl
theorem p_sRaise {c f : Str} : sRaise c f a C r st = bnd (a C r st) fun d st => .exc (.obj c [f] [d]) st := rfl
/-! what is raised -/
theorem bnd_exc {α β : Type} {x : D} {st : Store} {f : α → Store → Res β} : bnd (.exc x st) f = .exc x st := rfl
theorem p_sOwnA {i : Nat} : sOwnA i a b C r st = bnd (a C r st) fun d st => bnd (b C r st) fun e st => match d, e with
  | .lst xs, .lst ys => if xs.length + ys.length ≤ sizeLine then .ok (.nx (r.set i (.own (xs ++ ys)))) st else .bad
  | _, _ => .bad := rfl
/-! own operators -/
theorem p_eBinC {f : G2} : eBinC f a b C r st = bnd (a C r st) fun d st => bnd (b C r st) fun e st => f C d e st := rfl
theorem p_eBltC {f : FEnv → List D → Store → Res D} : eBltC f ss C r st = bnd (ss C r st) fun ds st => f C ds st := rfl
theorem p_eMake0 {c : Str} : eMake0 c C r st = .ok (.obj c [] []) (st ++ [.dead]) := rfl
theorem p_eMakeV {tab : List (Str × Str × List Src)} : eMakeV a tab ss sk C r st = bnd (a C r st) fun d st => match d with
  | .cls c => match tab.lookup c with
    | some (f, src) => eMake c f src ss sk C r st
    | none => .bad
  | _ => .bad := rfl
def oMulN (tab : List (Str × Str)) (C : FEnv) (d e : D) (st : Store) : Res D := match (ownNm d).bind fun c => tab.lookup c with
    | none => .bad
    | some f => if (tyName e).isSome = true then C f [d, e] st else .bad
noncomputable def oEqN (neg : Bool) (anc : List (Str × List Str)) (tab : List (Str × Str)) (C : FEnv) (d e : D) (st : Store) : Res D := match ownNm d with
    | none => oEqR neg anc tab C d e st
    | some c => match tab.lookup c with
      | none => .bad
      | some f => if rightOk anc c e = true then (C f [d, e] st).bind fun v st => tellB neg v st else .bad
noncomputable def oInN (neg : Bool) (anc : List (Str × List Str)) (tabE : List (Str × Str)) (tab : List (Str × Str)) (C : FEnv) (d e : D) (st : Store) : Res D := match e with
    | .tup ys => (inT anc tabE C d ys st).bind fun v st => tellB neg v st
    | .lst ys => (inT anc tabE C d ys st).bind fun v st => tellB neg v st
    | e => match (ownNm e).bind fun c => tab.lookup c with
      | none => .bad
      | some f => (C f [e, d] st).bind fun v st => tellB neg v st
def oTextN (tab : List (Str × Str)) (C : FEnv) (ds : List D) (st : Store) : Res D := match ds with
    | [d] => (match (ownNm d).bind fun c => tab.lookup c with
      | none => .bad
      | some f => (C f [d] st).bind fun v st => tellS v st)
    | _ => .bad
theorem p_oMul {tab : List (Str × Str)} {g : D → D → Option D} {d e : D} : oMul tab g C d e st = match g d e with
  | some v => .ok v st
  | none => oMulN tab C d e st := rfl
theorem p_oEq {neg : Bool} {anc : List (Str × List Str)} {tab : List (Str × Str)} {g : D → D → Option D} {d e : D} : oEq neg anc tab g C d e st = match g d e with
  | some v => .ok v st
  | none => oEqN neg anc tab C d e st := rfl
theorem p_oIn {neg : Bool} {anc : List (Str × List Str)} {tabE tab : List (Str × Str)} {g : D → D → Option D} {d e : D} : oIn neg anc tabE tab g C d e st = match g d e with
  | some v => .ok v st
  | none => oInN neg anc tabE tab C d e st := rfl
theorem p_oText {tab : List (Str × Str)} {g : List D → Option D} {ds : List D} : oText tab g C ds st = match g ds with
  | some v => .ok v st
  | none => oTextN tab C ds st := rfl
def oAddN (tab : List (Str × Str)) (C : FEnv) (d e : D) (st : Store) : Res D := match (ownNm d).bind fun c => (tab.lookup c).map fun f => (c, f) with
    | none => .bad
    | some (c, f) => if ownNm e = some c then C f [d, e] st else .bad
def oIxN (tab : List (Str × Str)) (C : FEnv) (d e : D) (st : Store) : Res D := match (ownNm d).bind fun c => tab.lookup c with
    | none => .bad
    | some f => C f [d, e] st
theorem p_oAdd {tab : List (Str × Str)} {g : D → D → Option D} {d e : D} : oAdd tab g C d e st = match g d e with
  | some v => .ok v st
  | none => oAddN tab C d e st := rfl
theorem p_oIx {tab : List (Str × Str)} {g : D → D → Store → Option D} {d e : D} : oIx tab g C d e st = match g d e st with
  | some v => .ok v st
  | none => oIxN tab C d e st := rfl
theorem p_aStar : aStar a ss C r st = bnd (a C r st) fun d st => bnd (lift (dSeq d) st) fun xs st => bnd (ss C r st) fun ys st => .ok (xs ++ ys) st := rfl
theorem p_eMakeS {c f : Str} : eMakeS c f ss C r st = bnd (ss C r st) fun ds st => if ds.length ≤ 60 then bnd (C f [.cell st.length, .tup ds] (st ++ [.obj c [] []])) fun v st' => frzD st.length v st' else .bad := rfl
def oLenN (tab : List (Str × Str)) (C : FEnv) (ds : List D) (st : Store) : Res D := match ds with
    | [d] => (match (ownNm d).bind fun c => tab.lookup c with
      | none => .bad
      | some f => (C f [d] st).bind fun v st => tellN v st)
    | _ => .bad
theorem p_oLen {tab : List (Str × Str)} {g : List D → Option D} {ds : List D} : oLen tab g C ds st = match g ds with
  | some v => .ok v st
  | none => oLenN tab C ds st := rfl
def oBoolN (tab : List (Str × Str)) (C : FEnv) (ds : List D) (st : Store) : Res D := match ds with
    | [d] => (match (ownNm d).bind fun c => tab.lookup c with
      | none => .bad
      | some f => (C f [d] st).bind fun v st => tellT v st)
    | _ => .bad
theorem p_oBool {tab : List (Str × Str)} {g : List D → Option D} {ds : List D} : oBool tab g C ds st = match g ds with
  | some v => .ok v st
  | none => oBoolN tab C ds st := rfl
theorem p_eLz : eLz ss C r st = bnd (ss C r st) fun ds st => bnd (lift (dZip ds) st) fun zs st => .ok (.lst zs) st := rfl
theorem p_eMakeVS {tab : List (Str × Str)} : eMakeVS a tab b C r st = bnd (a C r st) fun d st => match d with
  | .cls c => match tab.lookup c with
    | some f => eMakeS c f (aStar b aNil) C r st
    | none => .bad
  | _ => .bad := rfl
theorem p_eTupS : eTupS ss C r st = bnd (ss C r st) fun ds st => if ds.length ≤ 100000 then .ok (.tup ds) st else .bad := rfl
theorem p_eLstS : eLstS ss C r st = bnd (ss C r st) fun ds st => if ds.length ≤ 100000 then .ok (.lst ds) st else .bad := rfl
theorem p_eZip : eZip ss C r st = bnd (ss C r st) fun ds st => lift (dZip ds) st := rfl
theorem p_eEnum : eEnum ss C r st = bnd (ss C r st) fun ds st => lift (dEnum ds) st := rfl
/-! the store's end -/
theorem get_end {x : Cel} : (st ++ [x])[st.length]? = some x := by rw [List.getElem?_append_right (Nat.le_refl _), Nat.sub_self]; rfl
theorem set_end {x y : Cel} : (st ++ [x]).set st.length y = st ++ [y] := by rw [List.set_append_right _ _ (Nat.le_refl _), Nat.sub_self]; rfl
theorem frz_end {c : Str} {ns : List Str} {xs : List D} : frzD st.length .non (st ++ [.obj c ns xs]) = .ok (.obj c ns xs) (st ++ [.dead]) := by
  unfold frzD
  rw [get_end]
  show Res.ok _ ((st ++ [Cel.obj c ns xs]).set st.length .dead) = _
  rw [set_end]
/-- o.f = d of the object at the end -/
theorem fld_end {tab : List (Str × AK)} {c f : Str} {ns : List Str} {xs : List D} {d : D} (ht : tab.lookup c = some .fld) (hn : ns.length < 1000) (ha : a C r (st ++ [.obj c ns xs]) = .ok (.cell st.length) (st ++ [.obj c ns xs])) :
    gFld f tab a C d r (st ++ [.obj c ns xs]) = .ok r (st ++ [.obj c (putN f ns) (putX f d ns xs)]) := by
  unfold gFld
  rw [ha, bind_ok]
  simp only [get_end, ht, set_end, if_pos hn]
end
theorem kk0 : ((0 : Nat) < 1000) = True := eq_true (by decide)
theorem kk1 : ((1 : Nat) < 1000) = True := eq_true (by decide)
theorem kk2 : ((2 : Nat) < 1000) = True := eq_true (by decide)
theorem kk3 : ((3 : Nat) < 1000) = True := eq_true (by decide)
end DS
namespace DS
open PySem L2 PyProof.Rows
/-! ## fractions, by Lean's own rational numbers -/
def fr (q : Rat) : D := .tup [.int q.num, .int (q.den : Nat)]
theorem fr_ix0 (q : Rat) (st : Store) : dIx (fr q) (.int 0) st = some (.int q.num) := rfl
theorem fr_ix1 (q : Rat) (st : Store) : dIx (fr q) (.int 1) st = some (.int (q.den : Nat)) := rfl
theorem fr_len (q : Rat) : dLen [fr q] = some (.int 2) := rfl
theorem fr_tup (q : Rat) : tyName (fr q) = some "tuple" := rfl
theorem dIsO_fr (anc : List (Str × List Str)) (q : Rat) (t : String) : dIsO anc [fr q, .ty t] = dIsi [fr q, .ty t] := rfl
theorem fr_inj {p q : Rat} (h : fr p = fr q) : p = q := by
  unfold fr at h
  injection h with h
  injection h with h1 h2
  injection h2 with h2 _
  injection h1 with h1
  injection h2 with h2
  exact Rat.ext h1 (Int.ofNat.inj h2)
def frP (q : Rat) : PyData := .tuple [.int q.num, .int (q.den : Nat)]
theorem toP_fr (q : Rat) : toP (fr q) = some (frP q) := rfl
theorem shaped_fr (q : Rat) : SeqAt.shaped (frP q) = true := rfl
theorem eqv_fr (p q : Rat) : PyData.eqv (frP p) (frP q) = decide (p = q) := by
  have e : PyData.eqv (frP p) (frP q) = ((p.num == q.num) && (((p.den : Nat) : Int) == ((q.den : Nat) : Int))) := by
    show ((p.num == q.num) && ((((p.den : Nat) : Int) == ((q.den : Nat) : Int)) && true)) = _
    rw [Bool.and_true]
  rw [e, Bool.eq_iff_iff, Bool.and_eq_true, beq_iff_eq, beq_iff_eq, decide_eq_true_iff]
  exact ⟨fun h => Rat.ext h.1 (Int.ofNat.inj h.2), fun h => by rw [h]; exact ⟨rfl, rfl⟩⟩
theorem dEq_fr (p q : Rat) : dEq (fr p) (fr q) = some (.bl (decide (p = q))) := by
  show dEqv false (fr p) (fr q) = _
  unfold dEqv
  rw [toP_fr, toP_fr]
  show (if _ then _ else _) = _
  rw [if_pos ⟨shaped_fr p, shaped_fr q⟩, eqv_fr, Bool.false_xor]
theorem dNe_fr (p q : Rat) : dNe (fr p) (fr q) = some (.bl (!decide (p = q))) := by
  show dEqv true (fr p) (fr q) = _
  unfold dEqv
  rw [toP_fr, toP_fr]
  show (if _ then _ else _) = _
  rw [if_pos ⟨shaped_fr p, shaped_fr q⟩, eqv_fr, Bool.true_xor]
/-! ### positive ones -/
theorem num_pos {q : Rat} (h : 0 < q) : 0 < q.num := by
  have := (Rat.lt_iff 0 q).mp h
  simpa using this
theorem num_nat {q : Rat} (h : 0 < q) : q.num = ((q.num.toNat : Nat) : Int) := (Int.toNat_of_nonneg (Int.le_of_lt (num_pos h))).symm
theorem numT_pos {q : Rat} (h : 0 < q) : 0 < q.num.toNat := by have := num_pos h; omega
theorem den_pos' (q : Rat) : 0 < q.den := Nat.pos_of_ne_zero q.den_nz
theorem low_mk {a b : Nat} (hb : 0 < b) : fr (mkRat (a : Nat) b) = .tup [.int ((a / Nat.gcd a b : Nat) : Int), .int ((b / Nat.gcd a b : Nat) : Int)] := by
  unfold fr
  rw [Rat.num_mkRat, Rat.den_mkRat, if_neg (by omega), if_neg (by omega), Int.natAbs_natCast, Nat.gcd_comm b a]
  rfl
theorem pair_fr {a b : Nat} (hb : 0 < b) (h : Nat.gcd a b = 1) : D.tup [.int (a : Nat), .int (b : Nat)] = fr (mkRat (a : Nat) b) := by
  rw [low_mk hb, h, Nat.div_one, Nat.div_one]
theorem mk_pos {a b : Nat} (ha : 0 < a) (hb : 0 < b) : 0 < mkRat (a : Nat) b := by
  rw [Rat.lt_iff, Rat.num_mkRat, Rat.den_mkRat, if_neg (by omega), if_neg (by omega), Int.natAbs_natCast]
  have h1 : 0 < a / Nat.gcd b a := Nat.div_pos (Nat.le_of_dvd ha (Nat.gcd_dvd_right b a)) (Nat.gcd_pos_of_pos_left _ hb)
  have h2 : ((a : Nat) : Int) / ((Nat.gcd b a : Nat) : Int) = ((a / Nat.gcd b a : Nat) : Int) := rfl
  rw [h2]
  show (0 : Int) * _ < _ * ((1 : Nat) : Int)
  omega
theorem mk_mul {p q : Rat} (hp : 0 < p) (hq : 0 < q) : mkRat ((p.num.toNat * q.num.toNat : Nat) : Int) (p.den * q.den) = p * q := by
  rw [Rat.mul_def', Int.natCast_mul, ← num_nat hp, ← num_nat hq]
theorem div_eq {p q : Rat} (hq : 0 < q) : p / q = mkRat (p.num * (q.den : Nat)) (p.den * q.num.toNat) := by
  have h1 : q⁻¹.num = (q.den : Nat) := by rw [Rat.num_inv, Int.sign_eq_one_of_pos (num_pos hq), Int.one_mul]
  have h2 : q⁻¹.den = q.num.toNat := by
    rw [Rat.den_inv, if_neg (by have := num_pos hq; omega)]
    have := num_pos hq
    omega
  rw [Rat.div_def, Rat.mul_def', h1, h2]
theorem mk_div {p q : Rat} (hp : 0 < p) (hq : 0 < q) : mkRat ((p.num.toNat * q.den : Nat) : Int) (p.den * q.num.toNat) = p / q := by
  rw [div_eq hq, Int.natCast_mul, ← num_nat hp]
theorem div_pos {p q : Rat} (hp : 0 < p) (hq : 0 < q) : 0 < p / q := by
  rw [Rat.div_def]
  exact Rat.mul_pos hp (Rat.inv_pos.mpr hq)
theorem eq_nat {p q : Rat} (hp : 0 < p) (hq : 0 < q) : p = q ↔ ((p.num.toNat * q.den : Nat) : Int) = ((q.num.toNat * p.den : Nat) : Int) := by
  rw [Rat.eq_iff_mul_eq_mul, Int.natCast_mul, Int.natCast_mul, ← num_nat hp, ← num_nat hq]
theorem lt_nat {p q : Rat} (hp : 0 < p) (hq : 0 < q) : p < q ↔ ((p.num.toNat * q.den : Nat) : Int) < ((q.num.toNat * p.den : Nat) : Int) := by
  rw [Rat.lt_iff, Int.natCast_mul, Int.natCast_mul, ← num_nat hp, ← num_nat hq]
/-! ### how large -/
structure Bd (n : Nat) (q : Rat) : Prop where
  intro ::
  num : q.num.natAbs < 2 ^ n
  den : q.den < 2 ^ n
theorem Bd.n {n : Nat} {q : Rat} (h : Bd n q) : q.num.toNat < 2 ^ n := Nat.lt_of_le_of_lt (by omega) h.num
theorem Bd.mono {n m : Nat} {q : Rat} (h : Bd n q) (k : n ≤ m) : Bd m q := ⟨Nat.lt_of_lt_of_le h.num (Nat.pow_le_pow_right (by decide) k), Nat.lt_of_lt_of_le h.den (Nat.pow_le_pow_right (by decide) k)⟩
theorem Bd.mkI {n : Nat} {i : Int} {b : Nat} (hb : 0 < b) (h1 : i.natAbs < 2 ^ n) (h2 : b < 2 ^ n) : Bd n (mkRat i b) := by
  constructor
  · rw [Rat.num_mkRat, if_neg (by omega)]
    refine Nat.lt_of_le_of_lt ?_ h1
    rw [Int.natAbs_ediv_of_dvd (Int.ofNat_dvd_left.mpr (Nat.gcd_dvd_right b i.natAbs))]
    exact Nat.div_le_self _ _
  · rw [Rat.den_mkRat, if_neg (by omega)]
    exact Nat.lt_of_le_of_lt (Nat.div_le_self _ _) h2
theorem Bd.mk {n a b : Nat} (hb : 0 < b) (h1 : a < 2 ^ n) (h2 : b < 2 ^ n) : Bd n (mkRat (a : Nat) b) := Bd.mkI hb (by simpa using h1) h2
theorem mul_lt {a b n m : Nat} (h1 : a < 2 ^ n) (h2 : b < 2 ^ m) : a * b < 2 ^ (n + m) := by
  rw [Nat.pow_add]
  exact Nat.mul_lt_mul'' h1 h2
theorem Bd.mul {n m : Nat} {p q : Rat} (h1 : Bd n p) (h2 : Bd m q) : Bd (n + m) (p * q) := by
  rw [Rat.mul_def']
  exact Bd.mkI (Nat.mul_pos (den_pos' p) (den_pos' q)) (by rw [Int.natAbs_mul]; exact mul_lt h1.num h2.num) (mul_lt h1.den h2.den)
theorem Bd.div {n m : Nat} {p q : Rat} (hq : 0 < q) (h1 : Bd n p) (h2 : Bd m q) : Bd (n + m) (p / q) := by
  rw [div_eq hq]
  exact Bd.mkI (Nat.mul_pos (den_pos' p) (numT_pos hq)) (by rw [Int.natAbs_mul, Int.natAbs_natCast]; exact mul_lt h1.num h2.den) (mul_lt h1.den h2.n)
theorem gcd_lg {a b n : Nat} (ha : 0 < a) (h : a < 2 ^ n) (h0 : 0 < n) (hn : n ≤ 9000) : (Nat.gcd a b).log2 < 9000 :=
  Nat.lt_of_lt_of_le (PySem.Flt.log2_lt_of h0 (Nat.lt_of_le_of_lt (Nat.gcd_le_left b ha) h)) hn
theorem mul_nat {a b n m : Nat} (h1 : a < 2 ^ n) (h2 : b < 2 ^ m) (hn : 0 < n) (hm : 0 < m) (h : n + m ≤ 1000000) : dMul (.int a) (.int b) = some (.int ((a * b : Nat) : Int)) := by
  rw [dMul_int hn hm (by simpa using h1) (by simpa using h2) h, Int.natCast_mul]
theorem fdiv_nat {a g : Nat} (h : 0 < g) (h2 : g.log2 < 9000) : dFdiv (.int a) (.int g) = some (.int ((a / g : Nat) : Int)) := by
  rw [dFdiv_int (by omega) (by simpa using h2)]
  rfl
/-! ### what the shared functions do -/
def cmpR (p q : Rat) : Int := if p = q then 0 else if p < q then -1 else 1
abbrev IsCd (C : FEnv) : Prop := ∀ (a b : Nat) st, C "common_divisor" [.int a, .int b] st = .ok (.int (Nat.gcd a b : Nat)) st
abbrev IsLow (f : Str) (C : FEnv) : Prop := ∀ (a b : Nat) st, 0 < a → 0 < b → (Nat.gcd a b).log2 < 9000 → C f [.int a, .int b] st = .ok (fr (mkRat (a : Nat) b)) st
abbrev IsTimes (f : Str) (C : FEnv) : Prop := ∀ (p q : Rat) st, 0 < p → 0 < q → Bd 4000 p → Bd 4000 q → C f [fr p, fr q] st = .ok (fr (p * q)) st
abbrev IsOver (f : Str) (C : FEnv) : Prop := ∀ (p q : Rat) st, 0 < p → 0 < q → Bd 4000 p → Bd 4000 q → C f [fr p, fr q] st = .ok (fr (p / q)) st
abbrev IsCmp (f : Str) (C : FEnv) : Prop := ∀ (p q : Rat) st, 0 < p → 0 < q → Bd 4000 p → Bd 4000 q → C f [fr p, fr q] st = .ok (.int (cmpR p q)) st
abbrev IsLess (C : FEnv) : Prop := ∀ (p q : Rat) st, 0 < p → 0 < q → Bd 4000 p → Bd 4000 q → C "_law_less" [fr p, fr q] st = .ok (.bl (decide (p < q))) st
abbrev IsPartF (C : FEnv) : Prop := ∀ (p : Nat) (g : Bool) st, PoolAt p st → Gives (C "_law_part" [.cell p, .bl g] st) fun d st' => ∃ q : Rat, d = fr q ∧ 0 < q ∧ Bd 67 q ∧ PoolAt p st'
/-! ### products of parts, whatever the bound -/
theorem mul_nn {n m : Nat} {p q : Rat} (hp : 0 < p) (hq : 0 < q) (bp : Bd n p) (bq : Bd m q) (hn : 0 < n) (hm : 0 < m) (h : n + m ≤ 1000000) : dMul (.int p.num) (.int q.num) = some (.int ((p.num.toNat * q.num.toNat : Nat) : Int)) :=
  (congrArg (fun z => dMul (.int z) (.int q.num)) (num_nat hp)).trans ((congrArg (fun z => dMul (.int ((p.num.toNat : Nat) : Int)) (.int z)) (num_nat hq)).trans (mul_nat bp.n bq.n hn hm h))
theorem mul_nd {n m : Nat} {p q : Rat} (hp : 0 < p) (bp : Bd n p) (bq : Bd m q) (hn : 0 < n) (hm : 0 < m) (h : n + m ≤ 1000000) : dMul (.int p.num) (.int (q.den : Nat)) = some (.int ((p.num.toNat * q.den : Nat) : Int)) :=
  (congrArg (fun z => dMul (.int z) (.int (q.den : Nat))) (num_nat hp)).trans (mul_nat bp.n bq.den hn hm h)
theorem mul_dn {n m : Nat} {p q : Rat} (hq : 0 < q) (bp : Bd n p) (bq : Bd m q) (hn : 0 < n) (hm : 0 < m) (h : n + m ≤ 1000000) : dMul (.int (p.den : Nat)) (.int q.num) = some (.int ((p.den * q.num.toNat : Nat) : Int)) :=
  (congrArg (fun z => dMul (.int (p.den : Nat)) (.int z)) (num_nat hq)).trans (mul_nat bp.den bq.n hn hm h)
theorem mul_dd {n m : Nat} {p q : Rat} (bp : Bd n p) (bq : Bd m q) (hn : 0 < n) (hm : 0 < m) (h : n + m ≤ 1000000) : dMul (.int (p.den : Nat)) (.int (q.den : Nat)) = some (.int ((p.den * q.den : Nat) : Int)) := mul_nat bp.den bq.den hn hm h
theorem low_mul {n m : Nat} {f : Str} {C : FEnv} (hl : IsLow f C) {p q : Rat} (hp : 0 < p) (hq : 0 < q) (bp : Bd n p) (bq : Bd m q) (h0 : 0 < n + m) (h : n + m ≤ 9000) (st : Store) : C f [.int ((p.num.toNat * q.num.toNat : Nat) : Int), .int ((p.den * q.den : Nat) : Int)] st = .ok (fr (p * q)) st := by
  rw [hl _ _ st (Nat.mul_pos (numT_pos hp) (numT_pos hq)) (Nat.mul_pos (den_pos' p) (den_pos' q)) (gcd_lg (Nat.mul_pos (numT_pos hp) (numT_pos hq)) (mul_lt bp.n bq.n) h0 h), mk_mul hp hq]
theorem low_div {n m : Nat} {f : Str} {C : FEnv} (hl : IsLow f C) {p q : Rat} (hp : 0 < p) (hq : 0 < q) (bp : Bd n p) (bq : Bd m q) (h0 : 0 < n + m) (h : n + m ≤ 9000) (st : Store) : C f [.int ((p.num.toNat * q.den : Nat) : Int), .int ((p.den * q.num.toNat : Nat) : Int)] st = .ok (fr (p / q)) st := by
  rw [hl _ _ st (Nat.mul_pos (numT_pos hp) (den_pos' q)) (Nat.mul_pos (den_pos' p) (numT_pos hq)) (gcd_lg (Nat.mul_pos (numT_pos hp) (den_pos' q)) (mul_lt bp.n bq.den) h0 h), mk_div hp hq]
/-- the parts of two fractions as ints that nothing is computed of -/
theorem times_low {n m : Nat} {f : Str} {C : FEnv} (hl : IsLow f C) {p q : Rat} (hp : 0 < p) (hq : 0 < q) (bp : Bd n p) (bq : Bd m q) (hn : 0 < n) (hm : 0 < m) (h : n + m ≤ 9000) :
    ∃ a b c d u v : Int, fr p = .tup [.int a, .int b] ∧ fr q = .tup [.int c, .int d] ∧ dMul (.int a) (.int c) = some (.int u) ∧ dMul (.int b) (.int d) = some (.int v) ∧ ∀ st, C f [.int u, .int v] st = .ok (fr (p * q)) st :=
  ⟨_, _, _, _, _, _, rfl, rfl, mul_nn hp hq bp bq hn hm (by omega), mul_dd bp bq hn hm (by omega), low_mul hl hp hq bp bq (by omega) h⟩
theorem over_low {n m : Nat} {f : Str} {C : FEnv} (hl : IsLow f C) {p q : Rat} (hp : 0 < p) (hq : 0 < q) (bp : Bd n p) (bq : Bd m q) (hn : 0 < n) (hm : 0 < m) (h : n + m ≤ 9000) :
    ∃ a b c d u v : Int, fr p = .tup [.int a, .int b] ∧ fr q = .tup [.int c, .int d] ∧ dMul (.int a) (.int d) = some (.int u) ∧ dMul (.int b) (.int c) = some (.int v) ∧ ∀ st, C f [.int u, .int v] st = .ok (fr (p / q)) st :=
  ⟨_, _, _, _, _, _, rfl, rfl, mul_nd hp bp bq hn hm (by omega), mul_dn hq bp bq hn hm (by omega), low_div hl hp hq bp bq (by omega) h⟩
theorem cross_low {n m : Nat} {p q : Rat} (hp : 0 < p) (hq : 0 < q) (bp : Bd n p) (bq : Bd m q) (hn : 0 < n) (hm : 0 < m) (h : n + m ≤ 9000) :
    ∃ a b c d u v : Int, fr p = .tup [.int a, .int b] ∧ fr q = .tup [.int c, .int d] ∧ dMul (.int a) (.int d) = some (.int u) ∧ dMul (.int c) (.int b) = some (.int v) ∧ (p = q ↔ u = v) ∧ (p < q ↔ u < v) :=
  ⟨_, _, _, _, _, _, rfl, rfl, mul_nd hp bp bq hn hm (by omega), mul_nd hq bq bp hm hn (by omega), eq_nat hp hq, lt_nat hp hq⟩
theorem tup_ix0 (x : D) (r : List D) (st : Store) : dIx (.tup (x :: r)) (.int 0) st = some x := by
  show atI (x :: r) 0 = _
  unfold atI ixN
  rw [if_pos (by decide), if_pos (by rw [List.length_cons]; omega)]
  rfl
theorem tup_ix1 (x y : D) (r : List D) (st : Store) : dIx (.tup (x :: y :: r)) (.int 1) st = some y := by
  show atI (x :: y :: r) 1 = _
  unfold atI ixN
  rw [if_pos (by decide), if_pos (by rw [List.length_cons, List.length_cons]; omega)]
  rfl
def okTy : D → Bool
  | .ty _ => false
  | .cell _ => false
  | .obj _ _ _ => false
  | .cls _ => false
  | _ => true
def isWh (lo : Int) (hi : D) : D → Bool
  | .int a => decide (lo ≤ a) && (match hi with
    | .int k => decide (a ≤ k)
    | _ => true)
  | _ => false
theorem isWh_int {x : D} (h : isWh 1 .non x = true) : ∃ a, x = .int a ∧ 1 ≤ a := by
  cases x with
  | int a =>
    refine ⟨a, rfl, ?_⟩
    simpa [isWh] using h
  | _ => cases h
abbrev IsWh (C : FEnv) : Prop := ∀ (x : D) (lo : Int) (hi : D) st, okTy x = true → (hi = .non ∨ ∃ k, hi = .int k) → C "is_whole" [x, .int lo, hi] st = .ok (.bl (isWh lo hi x)) st
def coP : D → D → Bool
  | .int a, .int b => ((Nat.gcd a.toNat b.toNat : Nat) : Int) == 1
  | _, _ => false
def isFr2 : List D → Bool
  | [x, y] => isWh 1 .non x && (isWh 1 .non y && coP x y)
  | _ => false
def isFr : D → Bool
  | .tup l => isFr2 l
  | _ => false
def okFr : D → Bool
  | .tup [x, y] => okTy x && okTy y
  | .ty _ => false
  | .cell _ => false
  | .obj _ _ _ => false
  | .cls _ => false
  | _ => true
abbrev IsFr (C : FEnv) : Prop := ∀ (x : D) st, okFr x = true → C "is_fraction" [x] st = .ok (.bl (isFr x)) st
theorem isFr_fr {q : Rat} (h : 0 < q) : isFr (fr q) = true := by
  have h1 := num_pos h
  have h2 := den_pos' q
  show (isWh 1 .non (.int q.num) && (isWh 1 .non (.int (q.den : Nat)) && coP (.int q.num) (.int (q.den : Nat)))) = true
  have e1 : isWh 1 .non (.int q.num) = true := by simp [isWh]; omega
  have e2 : isWh 1 .non (.int (q.den : Nat)) = true := by simp [isWh]; omega
  rw [e1, e2]
  show (((Nat.gcd q.num.toNat ((q.den : Nat) : Int).toNat : Nat) : Int) == 1) = true
  rw [Int.toNat_natCast, show q.num.toNat = q.num.natAbs by omega, show Nat.gcd q.num.natAbs q.den = 1 from q.reduced]
  rfl
abbrev IsChk (C : FEnv) : Prop := ∀ (q : Rat) st, 0 < q → C "check_fraction" [fr q] st = .ok .non st
/-! ### texts of values -/
/-- d is data whose text is not too long -/
def Rp (k w : Nat) (d : D) : Prop := ∃ p, toP d = some p ∧ p.showable = true ∧ p.hasDict = false ∧ p.depth ≤ k ∧ wP p ≤ w
theorem Rp.mono {k w k' w' : Nat} {d : D} (h : Rp k w d) (hk : k ≤ k') (hw : w ≤ w') : Rp k' w' d := by
  obtain ⟨p, a, b, c, e, f⟩ := h
  exact ⟨p, a, b, c, Nat.le_trans e hk, Nat.le_trans f hw⟩
theorem Rp.repr {k w : Nat} {d : D} (h : Rp k w d) (hk : k ≤ 60) (hw : w ≤ 1000000) : ∃ t, dRepr [d] = some (.str t) := by
  obtain ⟨p, a, b, c, e, f⟩ := h
  exact ⟨_, dRepr_ok a b c (Nat.le_trans e hk) (Nat.le_trans f (Nat.le_trans hw (by rw [sizeLine_eq]; decide)))⟩
theorem rp_int {i : Int} (h : i.natAbs < 2 ^ 1900) : Rp 1 1921 (.int i) := by
  refine ⟨_, rfl, ?_, rfl, Nat.zero_le _, Nat.le_refl _⟩
  have := PySem.Flt.log2_lt_of (by decide) h
  simp only [PyData.showable, decide_eq_true_eq]
  omega
theorem rp_nat {i : Nat} (h : i < 2 ^ 1900) : Rp 1 1921 (.int (i : Nat)) := rp_int (by simpa using h)
theorem rp_bl (b : Bool) : Rp 1 5 (.bl b) := ⟨_, rfl, rfl, rfl, Nat.zero_le _, Nat.le_refl _⟩
theorem rp_non : Rp 1 4 .non := ⟨_, rfl, rfl, rfl, Nat.zero_le _, Nat.le_refl _⟩
theorem rps {k w : Nat} : ∀ ds : List D, (∀ d ∈ ds, Rp k w d) → ∃ ps, toPs ds = some ps ∧ PyData.showableAll ps = true ∧ PyData.hasDictAll ps = false ∧ PyData.depthAll ps ≤ k ∧ wPs ps ≤ ds.length * (w + 2)
  | [], _ => ⟨[], rfl, rfl, rfl, Nat.zero_le _, Nat.zero_le _⟩
  | d :: ds, h => by
    obtain ⟨p, a, b, c, e, f⟩ := h d List.mem_cons_self
    obtain ⟨ps, a', b', c', e', f'⟩ := rps ds fun x hx => h x (List.mem_cons_of_mem _ hx)
    refine ⟨p :: ps, by simp only [toPs, a, a'], by simp only [PyData.showableAll, b, b']; rfl, by simp only [PyData.hasDictAll, c, c']; rfl, ?_, ?_⟩
    · simp only [PyData.depthAll]
      omega
    · simp only [wPs, List.length_cons, Nat.succ_mul]
      omega
theorem rp_lst {k w n : Nat} {ds : List D} (h : ∀ d ∈ ds, Rp k w d) (hn : ds.length ≤ n) : Rp (k + 1) (4 + n * (w + 2)) (.lst ds) := by
  obtain ⟨ps, a, b, c, e, f⟩ := rps ds h
  refine ⟨.list ps, by simp only [toP, a, Option.map_some], by simpa only [PyData.showable] using b, by simpa only [PyData.hasDict] using c, ?_, ?_⟩
  · simp only [PyData.depth]
    omega
  · simp only [wP]
    have := Nat.mul_le_mul_right (w + 2) hn
    omega
theorem rp_tup {k w n : Nat} {ds : List D} (h : ∀ d ∈ ds, Rp k w d) (hn : ds.length ≤ n) : Rp (k + 1) (4 + n * (w + 2)) (.tup ds) := by
  obtain ⟨ps, a, b, c, e, f⟩ := rps ds h
  refine ⟨.tuple ps, by simp only [toP, a, Option.map_some], by simpa only [PyData.showable] using b, by simpa only [PyData.hasDict] using c, ?_, ?_⟩
  · simp only [PyData.depth]
    omega
  · simp only [wP]
    have := Nat.mul_le_mul_right (w + 2) hn
    omega
theorem rp_fr {q : Rat} (h : Bd 1900 q) : Rp 2 4000 (fr q) := by
  refine (rp_tup (k := 1) (w := 1921) (n := 2) (fun d hd => ?_) (Nat.le_refl _)).mono (Nat.le_refl _) (by decide)
  simp only [List.mem_cons, List.not_mem_nil, or_false] at hd
  rcases hd with rfl | rfl
  · exact rp_int h.num
  · exact rp_nat h.den
/-! ### what every law ends with -/
def IsRight (C : FEnv) : Prop := ∀ (p : Nat) st, PoolAt p st → Gives (C "_law_right" [.cell p] st) fun d _ => d = .bl true
theorem all_cells {C : FEnv} (hc : IsCell C) (hq : IsPool C) (hr : IsRight C) {ns : List Int} (hn : ns.length ≤ 63) {r : REnv} {st : Store} {b : Int} {i : Nat} (h0 : r[0]? = some (.val (.scr ns))) (b0 : 2 ≤ b) (b1 : b < 100) (hi : 0 < i) (hl : i < r.length) :
    Gives (eAll [i] (eRng (aCons (eBlt dMax (aCons (eC (.int 2)) (aCons (eBlt dMin (aCons (eBlt dLen (aCons (eVar 0) aNil)) (aCons (eC (.int b)) aNil))) aNil))) aNil)) (.nm i) (eCallK "_law_right" [.pos 0] (aCons (eCallK "_law_pool" [.pos 0] (aCons (eCallK "_law_cell" [.pos 0, .pos 1] (aCons (eVar 0) (aCons (eVar i) aNil)) aNil) aNil) aNil) aNil) aNil) C r st) fun d _ => d = .bl true := by
  obtain ⟨n, hmm, n0, n1⟩ : ∃ n : Int, (if (if b < (ns.length : Int) then b else (ns.length : Int)) > 2 then (if b < (ns.length : Int) then b else (ns.length : Int)) else 2) = n ∧ 0 ≤ n ∧ n < 100 := ⟨_, rfl, by split <;> omega, by split <;> (try split) <;> omega⟩
  refine Gives.mono (all_comp (I := fun _ => True) (J := fun xs => ∀ x ∈ xs, ∃ k : Int, x = .int k ∧ 0 ≤ k ∧ k < 100) ?_ ?_) fun _ _ h => h.1
  · have v0 : eVar 0 C r st = .ok (.scr ns) st := ev_Var h0
    have e : eRng (aCons (eBlt dMax (aCons (eC (.int 2)) (aCons (eBlt dMin (aCons (eBlt dLen (aCons (eVar 0) aNil)) (aCons (eC (.int b)) aNil))) aNil))) aNil) C r st = .ok (rng 0 n) st := by
      simp only [eRng, aCons, eBlt, eC, aNil, v0, bind_ok, dLen, lift_some, dMin, dMax, hmm, dRng_one n0 (show n < 2 ^ 62 by omega)]
    rw [e]
    refine ⟨_, _, rfl, ?_, ?_, trivial⟩
    · rw [rng_len]
      exact Nat.lt_of_lt_of_le (by omega) line_1000
    · intro x hx
      obtain ⟨k, rfl, k0, k1⟩ := rng_mem hx
      exact ⟨k, rfl, k0, by omega⟩
  · intro xs hj x hx st1 _
    obtain ⟨k, rfl, k0, k1⟩ := hj x hx
    have v0 : ∀ st, eVar 0 C ((wipeR r [i]).set i (.val (.int k))) st = .ok (.scr ns) st := fun st => ev_Var (by
      show (((r.set i .un)).set i _)[0]? = _
      rw [List.getElem?_set_ne (by omega), List.getElem?_set_ne (by omega)]
      exact h0)
    have vi : ∀ st, eVar i C ((wipeR r [i]).set i (.val (.int k))) st = .ok (.int k) st := fun st => ev_Var (by
      show (((r.set i .un)).set i _)[i]? = _
      rw [List.getElem?_set_self (by rw [List.length_set]; exact hl)])
    simp only [bindT, lift_some, bind_ok, eCallK, aCons, aNil, v0, vi, bind_bind, List.map_cons, List.map_nil, pickD, List.getD_cons_zero, List.getD_cons_succ]
    refine Gives.bind (hc ns k st1 hn k0 (by omega)) ?_
    rintro _ _ ⟨i, rfl, rfl⟩
    try simp only [bind_ok, List.getD_cons_zero]
    refine Gives.bind (hq i _) ?_
    rintro _ st2 ⟨p, rfl, hp⟩
    try simp only [bind_ok, List.getD_cons_zero]
    exact Gives.mono (hr p st2 hp) fun _ _ h => ⟨h, trivial⟩
theorem gcd_next (n : Nat) : Nat.gcd n (n + 1) = 1 := by rw [Nat.gcd_self_add_right, Nat.gcd_one_right]
theorem inv_div {p q : Rat} : (p / q)⁻¹ = q / p := by rw [Rat.div_def, Rat.div_def, Rat.inv_mul_rev, Rat.inv_inv]
theorem fr_back {z : Rat} (h : 0 < z) : dBack (fr z) (.int (-1)) = some (fr z⁻¹) := by
  show some (D.tup [.int (z.den : Nat), .int z.num]) = some (.tup [.int z⁻¹.num, .int (z⁻¹.den : Nat)])
  rw [Rat.num_inv, Rat.den_inv, if_neg (by have := num_pos h; omega), Int.sign_eq_one_of_pos (num_pos h), Int.one_mul]
  have := num_pos h
  rw [show ((z.num.natAbs : Nat) : Int) = z.num by omega]
theorem inv_pos' {z : Rat} (h : 0 < z) : 0 < z⁻¹ := Rat.inv_pos.mpr h
theorem Bd.inv {n : Nat} {z : Rat} (h : 0 < z) (b : Bd n z) : Bd n z⁻¹ := by
  constructor
  · rw [Rat.num_inv, Int.sign_eq_one_of_pos (num_pos h), Int.one_mul, Int.natAbs_natCast]
    exact b.den
  · rw [Rat.den_inv, if_neg (by have := num_pos h; omega)]
    exact b.num
theorem lt_asymm' {p q : Rat} (h : p < q) : ¬ q < p := Rat.not_lt.mpr (Rat.le_of_lt h)
theorem cmp_lt {p q : Rat} (h : p < q) : cmpR p q = -1 := (if_neg (Rat.ne_of_lt h)).trans (if_pos h)
theorem cmp_gt {p q : Rat} (h : q < p) : cmpR p q = 1 := (if_neg (Rat.ne_of_gt h)).trans (if_neg fun k => Rat.not_lt.mpr (Rat.le_of_lt h) k)
theorem cmp_eq (p : Rat) : cmpR p p = 0 := if_pos rfl
theorem rat_tri (p q : Rat) : p < q ∨ p = q ∨ q < p := by
  by_cases h : p < q
  · exact .inl h
  · by_cases k : p = q
    · exact .inr (.inl k)
    · exact .inr (.inr (Rat.lt_of_le_of_ne (Rat.not_lt.mp h) fun z => k z.symm))
theorem cmp_flip (p q : Rat) : 0 - cmpR q p = cmpR p q := by
  rcases rat_tri p q with h | h | h
  · rw [cmp_lt h, cmp_gt h]; rfl
  · rw [h, cmp_eq]; rfl
  · rw [cmp_gt h, cmp_lt h]; rfl
/-- a written fraction -/
theorem lit {a b : Nat} (h : (0 < a ∧ 0 < b) ∧ (a < 2 ^ 200 ∧ b < 2 ^ 200) ∧ Nat.gcd a b = 1) : D.tup [.int (a : Nat), .int (b : Nat)] = fr (mkRat (a : Nat) b) ∧ 0 < mkRat (a : Nat) b ∧ Bd 200 (mkRat (a : Nat) b) :=
  ⟨pair_fr h.1.2 h.2.2, mk_pos h.1.1 h.1.2, Bd.mk h.1.2 h.2.1.1 h.2.1.2⟩
end DS
namespace DS
open PySem L2 PyProof.Rows
/-! ## values of any kind, their texts -/
theorem dEq_tup (xs ys : List D) : dEq (.tup xs) (.tup ys) = dEqv false (.tup xs) (.tup ys) := rfl
theorem low_eq {a b : Nat} (ha : 0 < a) (hb : 0 < b) : dEq (fr (mkRat (a : Nat) b)) (.tup [.int (a : Nat), .int (b : Nat)]) = some (.bl (((Nat.gcd a b : Nat) : Int) == 1)) := by
  by_cases h : Nat.gcd a b = 1
  · rw [pair_fr hb h, dEq_fr, h]
    simp
  · have e : (((Nat.gcd a b : Nat) : Int) == 1) = false := by
      rw [beq_eq_false_iff_ne]
      omega
    have hg : 0 < Nat.gcd a b := Nat.gcd_pos_of_pos_left _ ha
    have hn : a / Nat.gcd a b ≠ a := by
      have := Nat.div_lt_self ha (show 1 < Nat.gcd a b by omega)
      omega
    rw [e, low_mk hb, dEq_tup]
    unfold dEqv
    show (if _ then _ else _) = _
    rw [if_pos ⟨rfl, rfl⟩]
    show some (D.bl (false ^^ ((((a / Nat.gcd a b : Nat) : Int) == ((a : Nat) : Int)) && _))) = _
    have e2 : (((a / Nat.gcd a b : Nat) : Int) == ((a : Nat) : Int)) = false := by
      rw [beq_eq_false_iff_ne]
      omega
    rw [e2]
    rfl
theorem ofStr_lt (s : String) : ∀ c ∈ (Str.ofString s).cps.toList, c < 16 ^ 8 := by
  intro c hc
  rw [Str.ofString_eq_toList] at hc
  simp only [List.mem_map] at hc
  obtain ⟨x, _, rfl⟩ := hc
  have h := x.val.toNat_lt
  show x.val.toNat < _
  omega
theorem rp_str {s : String} {n : Nat} (h : s.length ≤ n) : Rp 1 (10 * n + 2) (.str s) := by
  refine ⟨_, rfl, rfl, rfl, Nat.zero_le _, ?_⟩
  simp only [wP]
  have := StrLaws.reprText_len (Str.ofString s) (ofStr_lt s)
  rw [PySem.ofString_length] at this
  omega
theorem rp_int67 {i : Int} (h : i.natAbs < 2 ^ 200) : Rp 1 20000 (.int i) := (rp_int (Nat.lt_of_lt_of_le h (Nat.pow_le_pow_right (by decide) (by decide)))).mono (Nat.le_refl _) (by decide)
theorem str_int {i : Int} (h : i.natAbs < 2 ^ 200) : dStr [.int i] = some (.str (toString i)) ∧ Rp 1 20000 (.str (toString i)) := by
  have hl := PySem.Flt.log2_lt_of (by decide) h
  refine ⟨?_, (rp_str (n := 201) (int_text_length_le (by decide) hl)).mono (Nat.le_refl _) (by decide)⟩
  show (if _ then _ else _) = _
  rw [if_pos (by omega)]
/-- a small tuple, a small list -/
theorem rp_t {ds : List D} (h : ∀ d ∈ ds, Rp 1 20000 d) (hn : ds.length ≤ 3) : Rp 2 100000 (.tup ds) := (rp_tup h hn).mono (Nat.le_refl _) (by decide)
theorem rp_l {ds : List D} (h : ∀ d ∈ ds, Rp 1 20000 d) (hn : ds.length ≤ 3) : Rp 2 100000 (.lst ds) := (rp_lst h hn).mono (Nat.le_refl _) (by decide)
theorem rp_tt {ds : List D} (h : ∀ d ∈ ds, Rp 2 100000 d) (hn : ds.length ≤ 3) : Rp 3 1000000 (.tup ds) := (rp_tup h hn).mono (Nat.le_refl _) (by decide)
/-- a value of which a law asks whether it is a fraction -/
structure Odd (x : D) : Prop where
  ok : okFr x = true
  sm : ∀ a b : Int, x = .tup [.int a, .int b] → a.natAbs < 2 ^ 200 ∧ b.natAbs < 2 ^ 200
  rp : ∃ t, dRepr [x] = some (.str t)
theorem odd_of {x : D} {k w : Nat} (h : Rp k w x) (hk : k ≤ 60) (hw : w ≤ 1000000) (ok : okFr x = true) (sm : ∀ a b : Int, x = .tup [.int a, .int b] → a.natAbs < 2 ^ 200 ∧ b.natAbs < 2 ^ 200) : Odd x := ⟨ok, sm, h.repr hk hw⟩
theorem odd_ints {a b : Int} (ha : a.natAbs < 2 ^ 200) (hb : b.natAbs < 2 ^ 200) : Odd (.tup [.int a, .int b]) :=
  odd_of (rp_t (fun d hd => by
    simp only [List.mem_cons, List.not_mem_nil, or_false] at hd
    rcases hd with rfl | rfl
    · exact rp_int67 ha
    · exact rp_int67 hb) (by simp)) (by decide) (by decide) rfl fun x y h => by
      injection h with h
      injection h with h1 h2
      injection h2 with h2 _
      injection h1 with h1
      injection h2 with h2
      subst h1 h2
      exact ⟨ha, hb⟩
theorem dRepr_by {d : D} {p : PyData} (h : toP d = some p) (c : p.showable = true ∧ (p.hasDict = true → hasL p = false) ∧ p.depth ≤ 60 ∧ p.shown.length ≤ sizeLine) : dRepr [d] = some (.str p.shown) := by
  show (toP d).bind _ = _
  rw [h]
  exact if_pos c
/-- (a number, an empty dict) -/
theorem rep_emp2 {i : Int} (h : i.natAbs < 2 ^ 200) : ∃ t, dRepr [.tup [.int i, .emp]] = some (.str t) := by
  have hl := PySem.Flt.log2_lt_of (by decide) h
  refine ⟨(PyData.tuple [.int i, .dict []]).shown, ?_⟩
  refine dRepr_by (p := .tuple [.int i, .dict []]) rfl ⟨?_, fun _ => rfl, by simp [PyData.depth, PyData.depthAll, PyData.depthKv], ?_⟩
  · have : PyData.showable (.int i) = true := by
      simp only [PyData.showable, decide_eq_true_eq]
      omega
    simp only [PyData.showable, PyData.showableAll] at this ⊢
    simp only [this]
    rfl
  · have e : PyData.shown (.tuple [.int i, .dict []]) = Str.ofString "(" ++ Str.join ", " [Str.ofString (toString i), Str.ofString "{}"] ++ Str.ofString ")" := by
      simp only [PyData.shown, PyData.shownAll, tupleText]
      rfl
    rw [e, strLen_append, strLen_append]
    have j := join_length_add [Str.ofString (toString i), Str.ofString "{}"] (by simp)
    simp only [piled_cons, piled_nil] at j
    rw [PySem.ofString_length] at j
    have t := int_text_length_le (by decide) hl
    have e1 : (Str.ofString "(").length = 1 := by decide
    have e2 : (Str.ofString ")").length = 1 := by decide
    have e3 : (Str.ofString "{}").length = 2 := by decide
    have := line_1000
    omega
theorem dIx_mem {xs : List D} {k : Int} (st : Store) (h0 : 0 ≤ k) (h1 : k < xs.length) : ∃ d, dIx (.lst xs) (.int k) st = some d ∧ d ∈ xs := by
  have h : k.toNat < xs.length := by omega
  refine ⟨xs[k.toNat], ?_, List.getElem_mem h⟩
  show atI xs k = _
  unfold atI ixN
  rw [if_pos h0, if_pos h1]
  simp [h]
theorem fr_split {n : Nat} {q : Rat} (h : 0 < q) (b : Bd n q) : ∃ x y : Int, fr q = .tup [.int x, .int y] ∧ 1 ≤ x ∧ x.natAbs < 2 ^ n ∧ 1 ≤ y ∧ y.natAbs < 2 ^ n :=
  ⟨q.num, (q.den : Nat), rfl, num_pos h, b.num, by have := den_pos' q; omega, by simpa using b.den⟩
abbrev IsOdd (C : FEnv) : Prop := ∀ (p : Nat) st, PoolAt p st → Gives (C "_law_odd" [.cell p] st) fun d st' => Odd d ∧ PoolAt p st'
abbrev IsWhL (C : FEnv) : Prop := ∀ (x : D) st, okTy x = true → C "_law_whole" [x] st = .ok (.bl (isWh 1 .non x)) st
abbrev IsPartL (C : FEnv) : Prop := ∀ (x : D) st, Odd x → C "_law_is_part" [x] st = .ok (.bl (isFr x)) st
end DS
namespace DS
open PySem L2 PyProof.Rows
/-! ## texts of numbers -/
def nt (n : Nat) : Str := Str.ofString (toString ((n : Nat) : Int))
theorem nt_cps (n : Nat) : (nt n).cps.toList = TL.numL n := TL.tl_num n
theorem str_len (x : Str) : x.length = x.cps.toList.length := by
  rw [Array.length_toList]; rfl
theorem nt_len {n : Nat} (h : n < 2 ^ 1900) : (nt n).length ≤ 640 := by
  rw [str_len, nt_cps]
  exact TL.numL_len (by decide) (Nat.lt_trans h (by decide +kernel))
theorem log_lt {n k : Nat} (hk : 0 < k) (h : n < 2 ^ k) : n.log2 < k := PySem.Flt.log2_lt_of hk h
theorem nt_fits {n : Nat} (h : n < 2 ^ 1900) : (nt n).length + 700 ≤ sizeLine := by
  have := nt_len h
  have k : 1340 ≤ sizeLine := by rw [sizeLine_eq]; decide
  omega
theorem str_nt {n : Nat} (h : n < 2 ^ 1900) : dStr [.int (n : Nat)] = some (.str (nt n)) := by
  show (if _ then _ else _) = _
  rw [if_pos (show ((n : Nat) : Int).natAbs.log2 < 1920 by rw [Int.natAbs_natCast]; exact Nat.lt_trans (log_lt (by decide) h) (by decide))]
  rfl
theorem fmt_nt {n : Nat} (h : n < 2 ^ 1900) : dFmt (.int (n : Nat)) = some (.str (nt n)) := by
  show (if _ then _ else _) = _
  rw [if_pos (show ((n : Nat) : Int).natAbs.log2 < 1920 by rw [Int.natAbs_natCast]; exact Nat.lt_trans (log_lt (by decide) h) (by decide))]
  rfl
theorem int_nt {n : Nat} (h : n < 2 ^ 1900) : dInt [.str (nt n)] = some (.int (n : Nat)) := by
  show (if _ then _ else _) = _
  rw [if_pos (nt_len h)]
  have e : intText? (nt n) = some (n : Int) := TL.int_num (by
    rw [← nt_cps, ← str_len]; exact Nat.le_trans (nt_len h) (by decide))
  rw [e]
  rfl
theorem str_ne {x y : Str} (h : x.cps.toList ≠ y.cps.toList) : (x == y) = false := by
  rw [beq_eq_false_iff_ne]
  intro e
  exact h (by rw [e])
theorem nt_ne (n : Nat) : (nt n == ("" : Str)) = false := str_ne (by rw [nt_cps]; exact TL.numL_ne n)
theorem num_head : ∀ n : Nat, 0 < n → ∃ c r, TL.numL n = c :: r ∧ c ≠ 48 := by
  intro n
  induction n using Nat.strongRecOn with
  | _ n ih =>
    intro h
    by_cases k : n < 10
    · exact ⟨48 + n, [], TL.numL_lt k, by omega⟩
    · obtain ⟨c, r, e, q⟩ := ih (n / 10) (by omega) (by omega)
      exact ⟨c, r ++ [48 + n % 10], by rw [TL.numL_step (by omega), e]; rfl, q⟩
theorem nt_first {n : Nat} (h0 : 0 < n) (h : n < 2 ^ 1900) : ∃ y : Str, (∀ st, dIx (.str (nt n)) (.int 0) st = some (.str y)) ∧ (y == ("0" : Str)) = false := by
  obtain ⟨c, r, e, q⟩ := num_head n h0
  refine ⟨⟨#[c]⟩, fun st => ?_, str_ne (fun z => q (by
    have z' : [c] = [48] := z
    injection z'))⟩
  show (if _ then _ else _) = _
  rw [if_pos (Nat.le_trans (Nat.le_add_right _ _) (nt_fits h)), nt_cps, e]
  have : atI (c :: r) 0 = some c := by
    unfold atI ixN
    rw [if_pos (by decide), if_pos (by rw [List.length_cons]; omega)]
    rfl
  rw [this]
  rfl
theorem in_digits {c : Nat} (h : 48 ≤ c ∧ c ≤ 57) : dIn (.str ⟨#[c]⟩) (.str "0123456789") = some (.bl true) := by
  have : c = 48 ∨ c = 49 ∨ c = 50 ∨ c = 51 ∨ c = 52 ∨ c = 53 ∨ c = 54 ∨ c = 55 ∨ c = 56 ∨ c = 57 := by omega
  rcases this with rfl | rfl | rfl | rfl | rfl | rfl | rfl | rfl | rfl | rfl <;> kernel_rfl
theorem nt_digits (n : Nat) : ∀ d ∈ (nt n).cps.toList.map (fun c => D.str ⟨#[c]⟩), dIn d (.str "0123456789") = some (.bl true) := fun d hd => by
  obtain ⟨c, hc, rfl⟩ := List.mem_map.mp hd
  rw [nt_cps] at hc
  exact in_digits (TL.numL_digits n c hc)
/-- the text of a fraction -/
def tx2 (a b : Nat) : Str := ((Str.empty ++ nt a) ++ ("/" : Str)) ++ nt b
theorem emp_app (x : Str) : Str.empty ++ x = x := by
  show (⟨#[] ++ x.cps⟩ : Str) = x
  rw [Array.empty_append]
theorem nt_free (n : Nat) : 47 ∉ TL.tl (nt n) := by
  show 47 ∉ (nt n).cps.toList
  rw [nt_cps]
  exact TL.numL_free (by decide)
theorem split1 (a : Nat) : Txt.split (nt a) ("/" : Str) = [nt a] := by
  have e := TL.split_join (y := ("/" : Str)) (s := 47) (S := []) rfl (by decide +kernel) (parts := [nt a]) (by simp) (fun p hp => by
    rw [List.mem_singleton.mp hp]; exact nt_free a)
  rw [TL.join_eq] at e
  exact e
theorem split2 (a b : Nat) : Txt.split (tx2 a b) ("/" : Str) = [nt a, nt b] := by
  have e := TL.split_join (y := ("/" : Str)) (s := 47) (S := []) rfl (by decide +kernel) (parts := [nt a, nt b]) (by simp) (fun p hp => by
    simp only [List.mem_cons, List.not_mem_nil, or_false] at hp
    rcases hp with rfl | rfl
    · exact nt_free a
    · exact nt_free b)
  rw [TL.join_eq] at e
  unfold tx2
  rw [emp_app]
  exact e
theorem app_len (x y : Str) : (x ++ y).length = x.length + y.length := by
  show (x.cps ++ y.cps).size = _
  rw [Array.size_append]; rfl
theorem tx2_len {a b : Nat} (ha : a < 2 ^ 1900) (hb : b < 2 ^ 1900) : (tx2 a b).length ≤ 1281 := by
  unfold tx2
  rw [app_len, app_len, emp_app]
  have h1 := nt_len ha
  have h2 := nt_len hb
  have h3 : ("/" : Str).length = 1 := by decide +kernel
  omega
def shR (q : Rat) : Str := if q.den = 1 then nt q.num.toNat else tx2 q.num.toNat q.den
abbrev IsShown (f : Str) (C : FEnv) : Prop := ∀ (q : Rat) st, 0 < q → Bd 1900 q → C f [fr q] st = .ok (.str (shR q)) st
abbrev IsRW (C : FEnv) : Prop := ∀ (n : Nat) st, 0 < n → n < 2 ^ 1900 → C "read_whole" [.str (nt n)] st = .ok (.int (n : Nat)) st
abbrev IsRF (f : Str) (C : FEnv) : Prop := ∀ (q : Rat) st, 0 < q → Bd 1900 q → C f [.str (shR q)] st = .ok (fr q) st
abbrev IsFraction (C : FEnv) : Prop := ∀ (a b : Nat) st, 0 < a → 0 < b → (Nat.gcd a b).log2 < 9000 → C "fraction" [.int a, .int b] st = .ok (fr (mkRat (a : Nat) b)) st
/-- the parts as numbers that nothing is computed of -/
theorem fr_nat {n : Nat} {q : Rat} (h : 0 < q) (b : Bd n q) : ∃ a d : Nat, fr q = .tup [.int (a : Nat), .int (d : Nat)] ∧ q.num.toNat = a ∧ q.den = d ∧ 0 < a ∧ 0 < d ∧ a < 2 ^ n ∧ d < 2 ^ n :=
  ⟨_, _, by rw [← num_nat h]; rfl, rfl, rfl, numT_pos h, den_pos' q, b.n, b.den⟩
theorem nat_beq (a b : Nat) : ((a : Int) == (b : Int)) = (a == b) := by
  rw [Bool.eq_iff_iff, beq_iff_eq, beq_iff_eq]; exact Int.ofNat_inj
theorem split_d1 {a : Nat} (h : a < 2 ^ 1900) : dSplit (.str (nt a)) (.str "/") = some (.lst [.str (nt a)]) := by
  show (if _ then _ else _) = _
  rw [if_pos ⟨by decide +kernel, by have := nt_fits h; omega⟩, split1]
  rfl
theorem split_d2 {a b : Nat} (ha : a < 2 ^ 1900) (hb : b < 2 ^ 1900) : dSplit (.str (tx2 a b)) (.str "/") = some (.lst [.str (nt a), .str (nt b)]) := by
  show (if _ then _ else _) = _
  rw [if_pos ⟨by decide +kernel, by have := tx2_len ha hb; have k : 1300 ≤ sizeLine := (by rw [sizeLine_eq]; decide); omega⟩, split2]
  rfl
end DS
namespace DS
open PySem L2 PyProof.Rows
/-! ## sizes and steps, plainly -/
def sz (p q : Rat) : D := .obj "Size" ["width", "height"] [fr p, fr q]
def tn (n : Int) : D := .obj "Turn" ["times"] [.int n]
def st0 (c : Str) : D := .obj c [] []
def box4 (c : Str) (f : Str) (w h : Int) (x : D) : D := .obj c ["width", "height", f] [.int w, .int h, x]
abbrev IsSide (C : FEnv) : Prop := ∀ (q : Rat) st, 0 < q → C "side_of" [fr q] st = .ok (fr q) st
abbrev IsSideN (C : FEnv) : Prop := ∀ (n : Nat) st, 0 < n → C "side_of" [.int n] st = .ok (fr (mkRat (n : Nat) 1)) st
abbrev IsSizeI (C : FEnv) : Prop := ∀ (p q : Rat) st, 0 < p → 0 < q → C "Size.__init__" [.cell st.length, fr p, fr q] (st ++ [.obj "Size" [] []]) = .ok .non (st ++ [.obj "Size" ["width", "height"] [fr p, fr q]])
abbrev IsTurned (C : FEnv) : Prop := ∀ (p q : Rat) st, 0 < p → 0 < q → C "Size.turned" [sz p q] st = .ok (sz q p) (st ++ [.dead])
abbrev IsSzMul (C : FEnv) : Prop := ∀ (p q s : Rat) st, 0 < p → 0 < q → 0 < s → Bd 4000 p → Bd 4000 q → Bd 4000 s → C "Size.__mul__" [sz p q, fr s] st = .ok (sz (p * s) (q * s)) (st ++ [.dead])
abbrev IsSzEq (C : FEnv) : Prop := ∀ (p q p' q' : Rat) st, C "Size.__eq__" [sz p q, sz p' q'] st = .ok (.bl (decide (p = p') && decide (q = q'))) st
abbrev IsChkSz (C : FEnv) : Prop := ∀ (p q : Rat) st, C "check_size" [sz p q] st = .ok .non st
abbrev IsTurnI (C : FEnv) : Prop := ∀ (n : Int) st, 1 ≤ n → n ≤ 3 → C "Turn.__init__" [.cell st.length, .int n] (st ++ [.obj "Turn" [] []]) = .ok .non (st ++ [.obj "Turn" ["times"] [.int n]])
/-- a step's apply: the sides behind it -/
abbrev IsApply (f : Str) (step : D) (g : Rat → Rat → Rat × Rat) (C : FEnv) : Prop := ∀ (p q : Rat), 0 < p → 0 < q → Bd 1000 p → Bd 1000 q → ∃ l, ∀ st, C f [step, sz p q] st = .ok (sz (g p q).1 (g p q).2) (st ++ l)
abbrev IsSized (C : FEnv) : Prop := ∀ (p q : Rat) st, 0 < p → 0 < q → C "_law_sized" [.tup [fr p, fr q]] st = .ok (sz p q) (st ++ [.dead])
abbrev IsPairS (C : FEnv) : Prop := ∀ (p q : Rat) st, C "_law_pair" [sz p q] st = .ok (.tup [fr p, fr q]) st
/-- sides of a size, drawn -/
abbrev IsSides (C : FEnv) : Prop := ∀ (p : Nat) (g : Bool) st, PoolAt p st → Gives (C "_law_sides" [.cell p, .bl g] st) fun d st' => ∃ a b : Rat, d = .tup [fr a, fr b] ∧ 0 < a ∧ 0 < b ∧ Bd 75 a ∧ Bd 75 b ∧ PoolAt p st'
theorem PoolAt.app {p : Nat} {st l : Store} (h : PoolAt p st) : PoolAt p (st ++ l) := by
  obtain ⟨s, d, c, e, h1, h2⟩ := h
  exact ⟨s, d, c, by rw [List.getElem?_append_left (lt_of_get e)]; exact e, h1, h2⟩
theorem ne_pair (p q : Rat) : dNe (.tup [fr p, fr q]) (.tup [fr p, fr q]) = some (.bl false) := by
  show dEqv true (.tup [fr p, fr q]) (.tup [fr p, fr q]) = _
  have h : toP (.tup [fr p, fr q]) = some (.tuple [frP p, frP q]) := rfl
  unfold dEqv
  rw [h]
  show (if _ then _ else _) = _
  rw [if_pos ⟨rfl, rfl⟩]
  have e : PyData.eqv (.tuple [frP p, frP q]) (.tuple [frP p, frP q]) = (PyData.eqv (frP p) (frP p) && (PyData.eqv (frP q) (frP q) && true)) := rfl
  rw [e, eqv_fr, eqv_fr]
  simp
theorem all_cells2 {C : FEnv} (hc : IsCell C) (hq : IsPool C) (hr : IsRight C) {ns : List Int} (hn : ns.length ≤ 63) {r : REnv} {st : Store} {b : Int} {i : Nat} (h0 : r[0]? = some (.val (.scr ns))) (b0 : 2 ≤ b) (b1 : b < 100) (hi : 0 < i) (hl : i < r.length) :
    Gives (eAll [i] (eRng (aCons (eBlt dMax (aCons (eC (.int 2)) (aCons (eBlt dMin (aCons (eC (.int b)) (aCons (eBlt dLen (aCons (eVar 0) aNil)) aNil))) aNil))) aNil)) (.nm i) (eCallK "_law_right" [.pos 0] (aCons (eCallK "_law_pool" [.pos 0] (aCons (eCallK "_law_cell" [.pos 0, .pos 1] (aCons (eVar 0) (aCons (eVar i) aNil)) aNil) aNil) aNil) aNil) aNil) C r st) fun d _ => d = .bl true := by
  have h := all_cells hc hq hr hn (r := r) (st := st) (b := b) (i := i) h0 b0 b1 hi hl
  have v0 : eVar 0 C r st = .ok (.scr ns) st := ev_Var h0
  have e : ∀ x y : SE, x C r st = y C r st → eAll [i] (eRng (aCons x aNil)) (.nm i) = eAll [i] (eRng (aCons x aNil)) (.nm i) := fun _ _ _ => rfl
  unfold eAll eBlt aCons eComp eRng at h ⊢
  simp only [eBlt, aCons, aNil, eC, v0, bind_ok, dLen, lift_some, dMin, dMax] at h ⊢
  have em : (if (ns.length : Int) < b then (ns.length : Int) else b) = (if b < (ns.length : Int) then b else (ns.length : Int)) := by
    split <;> split <;> omega
  rw [em]
  exact h
theorem comp_out {C : FEnv} {r : REnv} {st : Store} {n : Nat} {vs : List Nat} {it : SA} {g : Tg} {e : SE} {I : Store → Prop} {J : List D → Prop} {P : D → Prop} (h1 : Gives (it C r st) fun xs st' => (xs.length = n ∧ n < sizeLine) ∧ J xs ∧ I st')
    (h2 : ∀ xs, J xs → ∀ x ∈ xs, ∀ st, I st → Gives ((lift (bindT g x (wipeR r vs)) st).bind fun r st => e C r st) fun y st' => P y ∧ I st') :
    Gives (eComp vs it g tYs e C r st) fun d st' => ∃ zs, d = .lst zs ∧ zs.length = n ∧ (∀ y ∈ zs, P y) ∧ I st' := by
  obtain ⟨xs, st1, e1, ⟨hl, hn⟩, hj, hi⟩ := h1
  obtain ⟨ys, st2, e2, ⟨zs, hy, hz0, hz⟩, h3⟩ := compGo_inv (g := g) (e := e) (C := C) (I := I) (P := P) (r := wipeR r vs) xs [] st1 (h2 xs hj) hi
  unfold eComp
  rw [e1, bind_ok, if_pos (by rw [hl]; exact hn), e2, bind_ok]
  exact ⟨_, _, rfl, zs, by rw [hy]; rfl, by rw [hz0, hl], hz, h3⟩
/-- sides of a size -/
def GoodS (x : D) : Prop := ∃ a b : Rat, x = .tup [fr a, fr b] ∧ 0 < a ∧ 0 < b ∧ Bd 900 a ∧ Bd 900 b
theorem goodS_lit {a b c d : Nat} (h1 : (0 < a ∧ 0 < b) ∧ (a < 2 ^ 200 ∧ b < 2 ^ 200) ∧ Nat.gcd a b = 1) (h2 : (0 < c ∧ 0 < d) ∧ (c < 2 ^ 200 ∧ d < 2 ^ 200) ∧ Nat.gcd c d = 1) : GoodS (.tup [.tup [.int (a : Nat), .int (b : Nat)], .tup [.int (c : Nat), .int (d : Nat)]]) := by
  obtain ⟨e1, p1, b1⟩ := lit h1
  obtain ⟨e2, p2, b2⟩ := lit h2
  rw [e1, e2]
  exact ⟨_, _, rfl, p1, p2, b1.mono (by decide), b2.mono (by decide)⟩
theorem dAdd_lst {xs ys : List D} (h : xs.length + ys.length ≤ 1000) : dAdd (.lst xs) (.lst ys) = some (.lst (xs ++ ys)) := by
  show (if _ then _ else _) = _
  rw [if_pos (Nat.le_trans h line_1000)]
/-! ### scalings and crops -/
def bx (c f : Str) (w h : Nat) (x : D) : D := .obj c ["width", "height", f] [.int (w : Nat), .int (h : Nat), x]
/-- a side of a box -/
def Sd (n : Nat) : Prop := 1 ≤ n ∧ n ≤ 1000000
instance (n : Nat) : Decidable (Sd n) := inferInstanceAs (Decidable (1 ≤ n ∧ n ≤ 1000000))
def wn (n : Nat) : Rat := mkRat (n : Nat) 1
theorem wn_pos {n : Nat} (h : Sd n) : 0 < wn n := mk_pos h.1 (by decide)
theorem wn_bd {n : Nat} (h : Sd n) : Bd 20 (wn n) := Bd.mk (by decide) (Nat.lt_of_le_of_lt h.2 (by decide)) (by decide)
theorem wn_fr (n : Nat) : D.tup [.int (n : Nat), .int 1] = fr (wn n) := pair_fr (b := 1) (by decide) (Nat.gcd_one_right _)
theorem one_fr : D.tup [.int 1, .int 1] = fr 1 := rfl
def scl (cv : Bool) (x y : Rat) : Rat := if cv = true then (if y < x then x else y) else (if x < y then x else y)
def shG (cv : Bool) (w h : Nat) (p q : Rat) : Rat × Rat := if scl cv (wn w / p) (wn h / q) < 1 then (p * scl cv (wn w / p) (wn h / q), q * scl cv (wn w / p) (wn h / q)) else (p, q)
def grG (cv : Bool) (w h : Nat) (p q : Rat) : Rat × Rat := if 1 < scl cv (wn w / p) (wn h / q) then (p * scl cv (wn w / p) (wn h / q), q * scl cv (wn w / p) (wn h / q)) else (p, q)
theorem scl_or (cv : Bool) (x y : Rat) : scl cv x y = x ∨ scl cv x y = y := by
  unfold scl
  split <;> split <;> simp
theorem scl_law (cv : Bool) (x y : Rat) : (if (!(decide (x < y) == cv)) = true then x else y) = scl cv x y := by
  unfold scl
  cases cv
  · by_cases h : x < y <;> simp [h]
  · by_cases h : x < y
    · simp [h, lt_asymm' h]
    · by_cases k : y < x
      · simp [h, k]
      · have : x = y := by
          rcases rat_tri x y with z | z | z
          · exact absurd z h
          · exact z
          · exact absurd z k
        simp [h, k, this]
theorem scl_pos {cv : Bool} {x y : Rat} (hx : 0 < x) (hy : 0 < y) : 0 < scl cv x y := by rcases scl_or cv x y with h | h <;> rw [h] <;> assumption
theorem scl_bd {cv : Bool} {x y : Rat} {n : Nat} (hx : Bd n x) (hy : Bd n y) : Bd n (scl cv x y) := by rcases scl_or cv x y with h | h <;> rw [h] <;> assumption
theorem div_pos' {p q : Rat} (hp : 0 < p) (hq : 0 < q) : 0 < p / q := div_pos hp hq
abbrev IsMin (C : FEnv) : Prop := ∀ (p q : Rat) st, 0 < p → 0 < q → Bd 4000 p → Bd 4000 q → C "lesser" [fr p, fr q] st = .ok (fr (if p < q then p else q)) st
abbrev IsMax (C : FEnv) : Prop := ∀ (p q : Rat) st, 0 < p → 0 < q → Bd 4000 p → Bd 4000 q → C "greater" [fr p, fr q] st = .ok (fr (if q < p then p else q)) st
abbrev IsBox (C : FEnv) : Prop := ∀ (w h : Nat) st, Sd w → Sd h → C "check_box" [.int (w : Nat), .int (h : Nat)] st = .ok .non st
abbrev IsScalI (f c : Str) (C : FEnv) : Prop := ∀ (w h : Nat) (cv : Bool) st, Sd w → Sd h → C f [.cell st.length, .int (w : Nat), .int (h : Nat), .bl cv] (st ++ [.obj c [] []]) = .ok .non (st ++ [.obj c ["width", "height", "cover"] [.int (w : Nat), .int (h : Nat), .bl cv]])
abbrev IsScale (c : Str) (C : FEnv) : Prop := ∀ (w h : Nat) (cv : Bool) (p q : Rat) st, Sd w → Sd h → 0 < p → 0 < q → Bd 1000 p → Bd 1000 q → C "scale_of" [bx c "cover" w h (.bl cv), sz p q] st = .ok (fr (scl cv (wn w / p) (wn h / q))) st
abbrev IsSide0 (C : FEnv) : Prop := ∀ (p : Nat) (g : Bool) st, PoolAt p st → Gives (C "_law_side" [.cell p, .bl g] st) fun d st' => ∃ n : Nat, d = .int (n : Nat) ∧ Sd n ∧ PoolAt p st'
abbrev IsEdges (C : FEnv) : Prop := ∀ (a b : Nat) st, Sd a → Sd b → ∃ xs, C "_law_edges" [.int (a : Nat), .int (b : Nat)] st = .ok (.lst xs) st ∧ xs.length = 16 ∧ ∀ x ∈ xs, GoodS x
theorem shG_bd {cv : Bool} {w h : Nat} {p q : Rat} (hw : Sd w) (hh : Sd h) (hp : 0 < p) (hq : 0 < q) (bp : Bd 900 p) (bq : Bd 900 q) : Bd 1900 (shG cv w h p q).1 ∧ Bd 1900 (shG cv w h p q).2 := by
  have bs : Bd 920 (scl cv (wn w / p) (wn h / q)) := scl_bd (Bd.div hp (wn_bd hw) bp) (Bd.div hq (wn_bd hh) bq)
  unfold shG
  split
  · exact ⟨(Bd.mul bp bs).mono (by decide), (Bd.mul bq bs).mono (by decide)⟩
  · exact ⟨bp.mono (by decide), bq.mono (by decide)⟩
theorem grG_bd {cv : Bool} {w h : Nat} {p q : Rat} (hw : Sd w) (hh : Sd h) (hp : 0 < p) (hq : 0 < q) (bp : Bd 900 p) (bq : Bd 900 q) : Bd 1900 (grG cv w h p q).1 ∧ Bd 1900 (grG cv w h p q).2 := by
  have bs : Bd 920 (scl cv (wn w / p) (wn h / q)) := scl_bd (Bd.div hp (wn_bd hw) bp) (Bd.div hq (wn_bd hh) bq)
  unfold grG
  split
  · exact ⟨(Bd.mul bp bs).mono (by decide), (Bd.mul bq bs).mono (by decide)⟩
  · exact ⟨bp.mono (by decide), bq.mono (by decide)⟩
theorem cmp0 (p q : Rat) : decide (cmpR p q < 0) = decide (p < q) ∧ decide (0 < cmpR p q) = decide (q < p) := by
  rcases rat_tri p q with h | h | h
  · rw [cmp_lt h]
    exact ⟨by rw [decide_eq_true (by decide), decide_eq_true h], by rw [decide_eq_false (by decide), decide_eq_false (lt_asymm' h)]⟩
  · rw [h, cmp_eq]
    exact ⟨by rw [decide_eq_false (by decide), decide_eq_false (by simp [Rat.lt_irrefl])], by rw [decide_eq_false (by decide), decide_eq_false (by simp [Rat.lt_irrefl])]⟩
  · rw [cmp_gt h]
    exact ⟨by rw [decide_eq_false (by decide), decide_eq_false (lt_asymm' h)], by rw [decide_eq_true (by decide), decide_eq_true h]⟩
theorem lowS {C : FEnv} (hl : IsLow "_law_low" C) (a b : Nat) (ha : 0 < a) (hb : 0 < b) (h1 : a < 2 ^ 100) (h2 : b < 2 ^ 100) : ∃ z : Rat, 0 < z ∧ Bd 100 z ∧ ∀ st, C "_law_low" [.int (a : Nat), .int (b : Nat)] st = .ok (fr z) st :=
  ⟨_, mk_pos ha hb, Bd.mk hb h1 h2, fun st => hl a b st ha hb (gcd_lg ha h1 (by decide) (by decide))⟩
theorem bx_at {C : FEnv} {c f g : Str} {w h : Nat} {x y : D} {tab : List (Str × AK)} {st : Store} (ht : tab.lookup c = some .fld) (hl : (([("width" : Str), "height", f].zip [D.int (w : Nat), .int (h : Nat), x]).lookup g) = some y) : attrD C g tab (bx c f w h x) st = .ok y st := by
  unfold attrD bx
  simp only [clsOf, ht, fldsOf, hl, lift_some]
abbrev IsSizeN (C : FEnv) : Prop := ∀ (a b : Nat) st, 0 < a → 0 < b → C "Size.__init__" [.cell st.length, .int (a : Nat), .int (b : Nat)] (st ++ [.obj "Size" [] []]) = .ok .non (st ++ [.obj "Size" ["width", "height"] [fr (wn a), fr (wn b)]])
/-! ### crops -/
def KeepOk (c k : Str) : Prop := (c = "CropWidth" ∧ (k = "left" ∨ k = "center" ∨ k = "right")) ∨ (c = "CropHeight" ∧ (k = "top" ∨ k = "center" ∨ k = "bottom"))
abbrev IsKeep (C : FEnv) : Prop := ∀ (k : Str) st, ((k = "left" ∨ k = "center" ∨ k = "right") → C "check_keep" [.str "width", .str k] st = .ok .non st) ∧ ((k = "top" ∨ k = "center" ∨ k = "bottom") → C "check_keep" [.str "height", .str k] st = .ok .non st)
abbrev IsCropI (f c : Str) (C : FEnv) : Prop := ∀ (w h : Nat) (k : Str) st, Sd w → Sd h → KeepOk c k → C f [.cell st.length, .int (w : Nat), .int (h : Nat), .str k] (st ++ [.obj c [] []]) = .ok .non (st ++ [.obj c ["width", "height", "keep"] [.int (w : Nat), .int (h : Nat), .str k]])
def rt (w h : Nat) : Rat := mkRat (w : Nat) h
theorem rt_pos {w h : Nat} (hw : Sd w) (hh : Sd h) : 0 < rt w h := mk_pos hw.1 hh.1
theorem rt_bd {w h : Nat} (hw : Sd w) (hh : Sd h) : Bd 20 (rt w h) := Bd.mk hh.1 (Nat.lt_of_le_of_lt hw.2 (by decide)) (Nat.lt_of_le_of_lt hh.2 (by decide))
def cwG (w h : Nat) (p q : Rat) : Rat × Rat := if q * rt w h < p then (q * rt w h, q) else (p, q)
def chG (w h : Nat) (p q : Rat) : Rat × Rat := if p * rt h w < q then (p, p * rt h w) else (p, q)
theorem cwG_bd {w h : Nat} {p q : Rat} (hw : Sd w) (hh : Sd h) (bp : Bd 900 p) (bq : Bd 900 q) : Bd 1900 (cwG w h p q).1 ∧ Bd 1900 (cwG w h p q).2 := by
  unfold cwG
  split
  · exact ⟨(Bd.mul bq (rt_bd hw hh)).mono (by decide), bq.mono (by decide)⟩
  · exact ⟨bp.mono (by decide), bq.mono (by decide)⟩
theorem chG_bd {w h : Nat} {p q : Rat} (hw : Sd w) (hh : Sd h) (bp : Bd 900 p) (bq : Bd 900 q) : Bd 1900 (chG w h p q).1 ∧ Bd 1900 (chG w h p q).2 := by
  unfold chG
  split
  · exact ⟨bp.mono (by decide), (Bd.mul bp (rt_bd hh hw)).mono (by decide)⟩
  · exact ⟨bp.mono (by decide), bq.mono (by decide)⟩
theorem low_rt {f : Str} {C : FEnv} (hl : IsLow f C) {w h : Nat} (hw : Sd w) (hh : Sd h) (st : Store) : C f [.int (w : Nat), .int (h : Nat)] st = .ok (fr (rt w h)) st :=
  hl w h st hw.1 hh.1 (gcd_lg (n := 20) hw.1 (Nat.lt_of_le_of_lt hw.2 (by decide)) (by decide) (by decide))
theorem con_end {C : FEnv} {tab : List (Str × AK)} {c f : Str} {ns : List Str} {xs : List D} {v : D} {st : Store} (ht : tab.lookup c = some (.con v)) (hn : (ns.zip xs).lookup f = none) : attrD C f tab (.cell st.length) (st ++ [.obj c ns xs]) = .ok v (st ++ [.obj c ns xs]) := by
  unfold attrD
  simp only [clsOf, fldsOf, get_end, ht, hn]
theorem ix_in {z : List D} {k : Int} (h0 : 0 ≤ k) (h1 : k < z.length) : ∃ x ∈ z, ∀ st, dIx (.lst z) (.int k) st = some x := by
  obtain ⟨n, rfl⟩ := Int.eq_ofNat_of_zero_le h0
  have hn : n < z.length := by omega
  refine ⟨z[n], List.getElem_mem hn, fun st => ?_⟩
  show atI z ((n : Nat) : Int) = _
  unfold atI ixN
  rw [if_pos (by omega), if_pos (by omega)]
  simp [hn]
/-! ### texts of sizes -/
def szT (p q : Rat) : Str := (shR p ++ ("x" : Str)) ++ shR q
theorem nt_freeC {n c : Nat} (h : ¬ (48 ≤ c ∧ c ≤ 57)) : c ∉ (nt n).cps.toList := by
  rw [nt_cps]
  exact fun hc => h (TL.numL_digits n c hc)
theorem app_cps (x y : Str) : (x ++ y).cps.toList = x.cps.toList ++ y.cps.toList := by
  show (x.cps ++ y.cps).toList = _
  rw [Array.toList_append]
theorem shR_free (p : Rat) : 120 ∉ TL.tl (shR p) := by
  show 120 ∉ (shR p).cps.toList
  unfold shR
  split
  · exact nt_freeC (by decide)
  · unfold tx2
    rw [emp_app, app_cps, app_cps]
    intro h
    rcases List.mem_append.mp h with h | h
    · rcases List.mem_append.mp h with h | h
      · exact nt_freeC (by decide) h
      · have : ("/" : Str).cps.toList = [47] := rfl
        rw [this] at h
        simp at h
    · exact nt_freeC (by decide) h
theorem shR_len {p : Rat} (h : Bd 1900 p) : (shR p).length ≤ 1281 := by
  unfold shR
  have h1 : p.num.toNat < 2 ^ 1900 := by have := h.num; omega
  split
  · exact Nat.le_trans (nt_len h1) (by decide)
  · exact tx2_len h1 h.den
theorem szT_len {p q : Rat} (hp : Bd 1900 p) (hq : Bd 1900 q) : (szT p q).length ≤ 2563 := by
  unfold szT
  rw [app_len, app_len]
  have h1 := shR_len hp
  have h2 := shR_len hq
  have h3 : ("x" : Str).length = 1 := by decide +kernel
  omega
theorem split_x {p q : Rat} (hp : Bd 1900 p) (hq : Bd 1900 q) : dSplit (.str (szT p q)) (.str "x") = some (.lst [.str (shR p), .str (shR q)]) := by
  have e := TL.split_join (y := ("x" : Str)) (s := 120) (S := []) rfl (by decide +kernel) (parts := [shR p, shR q]) (by simp) (fun z hz => by
    simp only [List.mem_cons, List.not_mem_nil, or_false] at hz
    rcases hz with rfl | rfl
    · exact shR_free p
    · exact shR_free q)
  rw [TL.join_eq] at e
  have e' : Txt.split (szT p q) ("x" : Str) = [shR p, shR q] := e
  show (if _ then _ else _) = _
  rw [if_pos ⟨by decide +kernel, by have := szT_len hp hq; have k : 3000 ≤ sizeLine := (by rw [sizeLine_eq]; decide); omega⟩, e']
  rfl
theorem add_str {x y : Str} (h : x.length + y.length ≤ 3000) : dAdd (.str x) (.str y) = some (.str (x ++ y)) := by
  show (if _ then _ else _) = _
  rw [if_pos (Nat.le_trans h (by rw [sizeLine_eq]; decide))]
theorem none_in2 (p q : Rat) : dIn .non (.lst [fr p, fr q]) = some (.bl false) := by
  have h : dIn .non (.lst [fr p, fr q]) = (inP .non [fr p, fr q]).map fun b => .bl (if false then !b else b) := rfl
  have e : inP .non [fr p, fr q] = some false := rfl
  rw [h, e]
  rfl
abbrev IsLShown (C : FEnv) : Prop := ∀ (q : Rat) st, 0 < q → Bd 1900 q → C "_law_shown" [fr q] st = .ok (.str (shR q)) st
abbrev IsRSides (C : FEnv) : Prop := ∀ (p q : Rat) st, 0 < p → 0 < q → Bd 1900 p → Bd 1900 q → C "read_sides" [.str (szT p q)] st = .ok (.lst [fr p, fr q]) st
abbrev IsRead (C : FEnv) : Prop := ∀ (p q : Rat) st, 0 < p → 0 < q → Bd 1900 p → Bd 1900 q → C "Size.read" [.cls "Size", .str (szT p q)] st = .ok (sz p q) (st ++ [.dead])
abbrev IsSzStr (C : FEnv) : Prop := ∀ (p q : Rat) st, 0 < p → 0 < q → Bd 1900 p → Bd 1900 q → C "Size.__str__" [sz p q] st = .ok (.str (szT p q)) st
abbrev IsSzRepr (C : FEnv) : Prop := ∀ (p q : Rat) st, 0 < p → 0 < q → Bd 1900 p → Bd 1900 q → ∃ t, C "Size.__repr__" [sz p q] st = .ok (.str t) st
/-- a is in b -/
def szIn (p q p' q' : Rat) : Bool := decide (¬ p' < p) && decide (¬ q' < q)
abbrev IsSzIn (C : FEnv) : Prop := ∀ (p q p' q' : Rat) st, 0 < p → 0 < q → 0 < p' → 0 < q' → Bd 4000 p → Bd 4000 q → Bd 4000 p' → Bd 4000 q' → C "Size.__contains__" [sz p' q', sz p q] st = .ok (.bl (szIn p q p' q')) st
/-- a value of which isinstance asks -/
def plainD : D → Bool
  | .obj _ _ _ => false
  | .cell _ => false
  | .ty _ => false
  | .cls _ => false
  | _ => true
abbrev IsSzNo (C : FEnv) : Prop := ∀ (p q : Rat) (x : D) st, plainD x = true → C "Size.__contains__" [sz p q, x] st = .ok (.bl false) st
/-- a side as it may be passed -/
def SideV (q : Rat) (x : D) : Prop := x = fr q ∨ ∃ n : Nat, 0 < n ∧ x = .int (n : Nat) ∧ q = wn n
abbrev IsGiven (C : FEnv) : Prop := ∀ (p : Nat) (q : Rat) st, PoolAt p st → 0 < q → Gives (C "_law_given" [.cell p, fr q] st) fun d st' => SideV q d ∧ PoolAt p st'
abbrev IsSizeV (C : FEnv) : Prop := ∀ (p q : Rat) (x y : D) st, 0 < p → 0 < q → SideV p x → SideV q y → C "Size.__init__" [.cell st.length, x, y] (st ++ [.obj "Size" [] []]) = .ok .non (st ++ [.obj "Size" ["width", "height"] [fr p, fr q]])
abbrev IsSMade (C : FEnv) : Prop := ∀ (p : Nat) (a b : Rat) st, PoolAt p st → 0 < a → 0 < b → Bd 1900 a → Bd 1900 b → Gives (C "_law_made" [.cell p, .tup [fr a, fr b]] st) fun d st' => d = sz a b ∧ PoolAt p st'
end DS
namespace DS
open PySem L2 PyProof.Rows
/-! ## steps of all classes, plainly -/
inductive Sp where
  | sh (w h : Nat) (cv : Bool)
  | gr (w h : Nat) (cv : Bool)
  | cw (w h : Nat) (k : Str)
  | ch (w h : Nat) (k : Str)
  | tn (n : Nat)
  | ls
  | po
  deriving DecidableEq
def Sp.ok : Sp → Prop
  | .sh w h _ => Sd w ∧ Sd h
  | .gr w h _ => Sd w ∧ Sd h
  | .cw w h k => Sd w ∧ Sd h ∧ (k = "left" ∨ k = "center" ∨ k = "right")
  | .ch w h k => Sd w ∧ Sd h ∧ (k = "top" ∨ k = "center" ∨ k = "bottom")
  | .tn n => n = 1 ∨ n = 2 ∨ n = 3
  | .ls => True
  | .po => True
/-- as the laws write it -/
def Sp.d : Sp → D
  | .sh w h cv => .tup [.str "shrink", .int (w : Nat), .int (h : Nat), .bl cv]
  | .gr w h cv => .tup [.str "grow", .int (w : Nat), .int (h : Nat), .bl cv]
  | .cw w h k => .tup [.str "width", .int (w : Nat), .int (h : Nat), .str k]
  | .ch w h k => .tup [.str "height", .int (w : Nat), .int (h : Nat), .str k]
  | .tn n => .tup [.str "turn", .int (n : Nat)]
  | .ls => .tup [.str "landscape"]
  | .po => .tup [.str "portrait"]
/-- the step -/
def Sp.o : Sp → D
  | .sh w h cv => bx "Shrink" "cover" w h (.bl cv)
  | .gr w h cv => bx "Grow" "cover" w h (.bl cv)
  | .cw w h k => bx "CropWidth" "keep" w h (.str k)
  | .ch w h k => bx "CropHeight" "keep" w h (.str k)
  | .tn n => DS.tn (n : Nat)
  | .ls => st0 "Landscape"
  | .po => st0 "Portrait"
def Sp.f : Sp → Str
  | .sh _ _ _ => "Shrink.apply"
  | .gr _ _ _ => "Grow.apply"
  | .cw _ _ _ => "CropWidth.apply"
  | .ch _ _ _ => "CropHeight.apply"
  | .tn _ => "Turn.apply"
  | .ls => "Landscape.apply"
  | .po => "Portrait.apply"
def tnG (n : Nat) (p q : Rat) : Rat × Rat := if n = 2 then (p, q) else (q, p)
def lsG (p q : Rat) : Rat × Rat := if p < q then (q, p) else (p, q)
def poG (p q : Rat) : Rat × Rat := if q < p then (q, p) else (p, q)
def Sp.g : Sp → Rat → Rat → Rat × Rat
  | .sh w h cv => shG cv w h
  | .gr w h cv => grG cv w h
  | .cw w h _ => cwG w h
  | .ch w h _ => chG w h
  | .tn n => tnG n
  | .ls => lsG
  | .po => poG
abbrev IsStep (C : FEnv) : Prop := ∀ s : Sp, s.ok → IsApply s.f s.o s.g C
abbrev IsSpMade (C : FEnv) : Prop := ∀ (s : Sp) st, s.ok → C "_law_made" [s.d] st = .ok s.o (st ++ [.dead])
abbrev IsDrawn (C : FEnv) : Prop := ∀ (p : Nat) (g : Bool) st, PoolAt p st → Gives (C "_law_drawn" [.cell p, .bl g] st) fun d st' => ∃ s : Sp, d = s.d ∧ s.ok ∧ PoolAt p st'
/-! ### what they keep -/
theorem wn_ne {n : Nat} (h : Sd n) : wn n ≠ 0 := fun z => absurd (wn_pos h) (by rw [z]; exact Rat.lt_irrefl)
theorem ne_of_pos {p : Rat} (h : 0 < p) : p ≠ 0 := fun z => absurd h (by rw [z]; exact Rat.lt_irrefl)
theorem scl_comm (cv : Bool) (x y : Rat) : scl cv y x = scl cv x y := by
  unfold scl
  rcases rat_tri x y with h | h | h
  · have := lt_asymm' h
    cases cv <;> simp [h, this]
  · rw [h]
  · have := lt_asymm' h
    cases cv <;> simp [h, this]
theorem scl_div (cv : Bool) {x y s : Rat} (hs : 0 < s) : scl cv (x / s) (y / s) = scl cv x y / s := by
  have l : ∀ a b : Rat, a / s < b / s ↔ a < b := fun a b => by
    rw [Rat.div_lt_iff hs, show b / s * s = b from Rat.div_mul_cancel (ne_of_pos hs)]
  unfold scl
  simp only [l]
  split <;> split <;> rfl
theorem div_mul2 {w p s : Rat} (hp : 0 < p) (hs : 0 < s) : w / (p * s) = w / p / s := by
  have h1 := ne_of_pos hp
  have h2 := ne_of_pos hs
  grind
theorem div_self' {s : Rat} (h : 0 < s) : s / s = 1 := by
  have := ne_of_pos h
  grind
/-- the scale behind a scaling by t -/
theorem scl_at (cv : Bool) {w h p q t : Rat} (hp : 0 < p) (hq : 0 < q) (ht : 0 < t) : scl cv (w / (p * t)) (h / (q * t)) = scl cv (w / p) (h / q) / t := by
  rw [div_mul2 hp ht, div_mul2 hq ht, scl_div cv ht]
theorem Sp.pos {s : Sp} (hs : s.ok) {p q : Rat} (hp : 0 < p) (hq : 0 < q) : 0 < (s.g p q).1 ∧ 0 < (s.g p q).2 := by
  cases s with
  | sh w h cv =>
    have k : 0 < scl cv (wn w / p) (wn h / q) := scl_pos (div_pos (wn_pos hs.1) hp) (div_pos (wn_pos hs.2) hq)
    show 0 < (shG cv w h p q).1 ∧ 0 < (shG cv w h p q).2
    unfold shG
    split
    · exact ⟨Rat.mul_pos hp k, Rat.mul_pos hq k⟩
    · exact ⟨hp, hq⟩
  | gr w h cv =>
    have k : 0 < scl cv (wn w / p) (wn h / q) := scl_pos (div_pos (wn_pos hs.1) hp) (div_pos (wn_pos hs.2) hq)
    show 0 < (grG cv w h p q).1 ∧ 0 < (grG cv w h p q).2
    unfold grG
    split
    · exact ⟨Rat.mul_pos hp k, Rat.mul_pos hq k⟩
    · exact ⟨hp, hq⟩
  | cw w h k =>
    show 0 < (cwG w h p q).1 ∧ 0 < (cwG w h p q).2
    unfold cwG
    split
    · exact ⟨Rat.mul_pos hq (rt_pos hs.1 hs.2.1), hq⟩
    · exact ⟨hp, hq⟩
  | ch w h k =>
    show 0 < (chG w h p q).1 ∧ 0 < (chG w h p q).2
    unfold chG
    split
    · exact ⟨hp, Rat.mul_pos hp (rt_pos hs.2.1 hs.1)⟩
    · exact ⟨hp, hq⟩
  | tn n =>
    show 0 < (tnG n p q).1 ∧ 0 < (tnG n p q).2
    unfold tnG
    split
    · exact ⟨hp, hq⟩
    · exact ⟨hq, hp⟩
  | ls =>
    show 0 < (lsG p q).1 ∧ 0 < (lsG p q).2
    unfold lsG
    split
    · exact ⟨hq, hp⟩
    · exact ⟨hp, hq⟩
  | po =>
    show 0 < (poG p q).1 ∧ 0 < (poG p q).2
    unfold poG
    split
    · exact ⟨hq, hp⟩
    · exact ⟨hp, hq⟩
theorem Sp.bd {s : Sp} (hs : s.ok) {p q : Rat} {n : Nat} (hp : 0 < p) (hq : 0 < q) (bp : Bd n p) (bq : Bd n q) : Bd (2 * n + 20) (s.g p q).1 ∧ Bd (2 * n + 20) (s.g p q).2 := by
  have m : ∀ {m : Nat} {x : Rat}, Bd m x → m ≤ 2 * n + 20 → Bd (2 * n + 20) x := fun h k => h.mono k
  cases s with
  | sh w h cv =>
    have k : Bd (20 + n) (scl cv (wn w / p) (wn h / q)) := scl_bd (Bd.div hp (wn_bd hs.1) bp) (Bd.div hq (wn_bd hs.2) bq)
    show Bd _ (shG cv w h p q).1 ∧ Bd _ (shG cv w h p q).2
    unfold shG
    split
    · exact ⟨m (Bd.mul bp k) (by omega), m (Bd.mul bq k) (by omega)⟩
    · exact ⟨m bp (by omega), m bq (by omega)⟩
  | gr w h cv =>
    have k : Bd (20 + n) (scl cv (wn w / p) (wn h / q)) := scl_bd (Bd.div hp (wn_bd hs.1) bp) (Bd.div hq (wn_bd hs.2) bq)
    show Bd _ (grG cv w h p q).1 ∧ Bd _ (grG cv w h p q).2
    unfold grG
    split
    · exact ⟨m (Bd.mul bp k) (by omega), m (Bd.mul bq k) (by omega)⟩
    · exact ⟨m bp (by omega), m bq (by omega)⟩
  | cw w h k =>
    show Bd _ (cwG w h p q).1 ∧ Bd _ (cwG w h p q).2
    unfold cwG
    split
    · exact ⟨m (Bd.mul bq (rt_bd hs.1 hs.2.1)) (by omega), m bq (by omega)⟩
    · exact ⟨m bp (by omega), m bq (by omega)⟩
  | ch w h k =>
    show Bd _ (chG w h p q).1 ∧ Bd _ (chG w h p q).2
    unfold chG
    split
    · exact ⟨m bp (by omega), m (Bd.mul bp (rt_bd hs.2.1 hs.1)) (by omega)⟩
    · exact ⟨m bp (by omega), m bq (by omega)⟩
  | tn n =>
    show Bd _ (tnG n p q).1 ∧ Bd _ (tnG n p q).2
    unfold tnG
    split
    · exact ⟨m bp (by omega), m bq (by omega)⟩
    · exact ⟨m bq (by omega), m bp (by omega)⟩
  | ls =>
    show Bd _ (lsG p q).1 ∧ Bd _ (lsG p q).2
    unfold lsG
    split
    · exact ⟨m bq (by omega), m bp (by omega)⟩
    · exact ⟨m bp (by omega), m bq (by omega)⟩
  | po =>
    show Bd _ (poG p q).1 ∧ Bd _ (poG p q).2
    unfold poG
    split
    · exact ⟨m bq (by omega), m bp (by omega)⟩
    · exact ⟨m bp (by omega), m bq (by omega)⟩
/-! ### turned about -/
def Sp.ab : Sp → Sp
  | .sh w h cv => .sh h w cv
  | .gr w h cv => .gr h w cv
  | .cw w h _ => .ch h w "center"
  | .ch w h _ => .cw h w "center"
  | .tn n => .tn n
  | .ls => .po
  | .po => .ls
theorem Sp.ab_ok {s : Sp} (hs : s.ok) : s.ab.ok := by
  cases s with
  | sh w h cv => exact ⟨hs.2, hs.1⟩
  | gr w h cv => exact ⟨hs.2, hs.1⟩
  | cw w h k => exact ⟨hs.2.1, hs.1, .inr (.inl rfl)⟩
  | ch w h k => exact ⟨hs.2.1, hs.1, .inr (.inl rfl)⟩
  | tn n => exact hs
  | ls => trivial
  | po => trivial
theorem Sp.ab_g (s : Sp) (p q : Rat) : s.ab.g q p = ((s.g p q).2, (s.g p q).1) := by
  cases s with
  | sh w h cv =>
    show shG cv h w q p = ((shG cv w h p q).2, (shG cv w h p q).1)
    unfold shG
    rw [scl_comm]
    split <;> rfl
  | gr w h cv =>
    show grG cv h w q p = ((grG cv w h p q).2, (grG cv w h p q).1)
    unfold grG
    rw [scl_comm]
    split <;> rfl
  | cw w h k =>
    show chG h w q p = ((cwG w h p q).2, (cwG w h p q).1)
    unfold chG cwG
    split <;> rfl
  | ch w h k =>
    show cwG h w q p = ((chG w h p q).2, (chG w h p q).1)
    unfold chG cwG
    split <;> rfl
  | tn n =>
    show tnG n q p = ((tnG n p q).2, (tnG n p q).1)
    unfold tnG
    split <;> rfl
  | ls =>
    show poG q p = ((lsG p q).2, (lsG p q).1)
    unfold poG lsG
    split <;> rfl
  | po =>
    show lsG q p = ((poG p q).2, (poG p q).1)
    unfold poG lsG
    split <;> rfl
/-! ### scaled -/
def Sp.scal : Sp → Bool
  | .sh _ _ _ => true
  | .gr _ _ _ => true
  | _ => false
theorem Sp.g_mul {s : Sp} (hz : s.scal = false) {p q t : Rat} (ht : 0 < t) : s.g (p * t) (q * t) = ((s.g p q).1 * t, (s.g p q).2 * t) := by
  have l : ∀ a b : Rat, a * t < b * t ↔ a < b := fun a b => Rat.mul_lt_mul_right ht
  have m : ∀ a b : Rat, a * t * b = a * b * t := fun a b => by rw [Rat.mul_assoc, Rat.mul_comm t b, ← Rat.mul_assoc]
  cases s with
  | sh w h cv => cases hz
  | gr w h cv => cases hz
  | cw w h k =>
    show cwG w h (p * t) (q * t) = ((cwG w h p q).1 * t, (cwG w h p q).2 * t)
    unfold cwG
    simp only [m, l]
    split <;> rfl
  | ch w h k =>
    show chG w h (p * t) (q * t) = ((chG w h p q).1 * t, (chG w h p q).2 * t)
    unfold chG
    simp only [m, l]
    split <;> rfl
  | tn n =>
    show tnG n (p * t) (q * t) = ((tnG n p q).1 * t, (tnG n p q).2 * t)
    unfold tnG
    split <;> rfl
  | ls =>
    show lsG (p * t) (q * t) = ((lsG p q).1 * t, (lsG p q).2 * t)
    unfold lsG
    simp only [l]
    split <;> rfl
  | po =>
    show poG (p * t) (q * t) = ((poG p q).1 * t, (poG p q).2 * t)
    unfold poG
    simp only [l]
    split <;> rfl
theorem ratio_mul {p q s : Rat} (hq : 0 < q) (hs : 0 < s) : p * s / (q * s) = p / q := by
  have h1 := ne_of_pos hq
  have h2 := ne_of_pos hs
  grind
theorem sh_ratio {cv : Bool} {w h : Nat} (hw : Sd w) (hh : Sd h) {p q : Rat} (hp : 0 < p) (hq : 0 < q) : (shG cv w h p q).1 / (shG cv w h p q).2 = p / q := by
  have k : 0 < scl cv (wn w / p) (wn h / q) := scl_pos (div_pos (wn_pos hw) hp) (div_pos (wn_pos hh) hq)
  unfold shG
  split
  · exact ratio_mul hq k
  · rfl
theorem gr_ratio {cv : Bool} {w h : Nat} (hw : Sd w) (hh : Sd h) {p q : Rat} (hp : 0 < p) (hq : 0 < q) : (grG cv w h p q).1 / (grG cv w h p q).2 = p / q := by
  have k : 0 < scl cv (wn w / p) (wn h / q) := scl_pos (div_pos (wn_pos hw) hp) (div_pos (wn_pos hh) hq)
  unfold grG
  split
  · exact ratio_mul hq k
  · rfl
theorem wn_two (w : Nat) : wn (2 * w) = wn w * 2 := by
  unfold wn
  have h : ∀ n : Nat, mkRat ((n : Nat) : Int) 1 = ((n : Nat) : Rat) := fun n => by
    rw [Rat.mkRat_one]; rfl
  rw [h, h]
  have : ((2 * w : Nat) : Rat) = ((2 : Nat) : Rat) * (w : Rat) := by exact Rat.natCast_mul 2 w
  rw [this, Rat.mul_comm]
  rfl
theorem dbl {w p : Rat} (hp : 0 < p) : w * 2 / (p * 2) = w / p := by
  have h1 := ne_of_pos hp
  grind
theorem sh_dbl {cv : Bool} {w h : Nat} {p q : Rat} (hp : 0 < p) (hq : 0 < q) : shG cv (2 * w) (2 * h) (p * 2) (q * 2) = ((shG cv w h p q).1 * 2, (shG cv w h p q).2 * 2) := by
  unfold shG
  rw [wn_two, wn_two, dbl hp, dbl hq]
  generalize scl cv (wn w / p) (wn h / q) = s
  split
  · show (p * 2 * s, q * 2 * s) = (p * s * 2, q * s * 2)
    congr 1 <;> grind
  · rfl
theorem gr_dbl {cv : Bool} {w h : Nat} {p q : Rat} (hp : 0 < p) (hq : 0 < q) : grG cv (2 * w) (2 * h) (p * 2) (q * 2) = ((grG cv w h p q).1 * 2, (grG cv w h p q).2 * 2) := by
  unfold grG
  rw [wn_two, wn_two, dbl hp, dbl hq]
  generalize scl cv (wn w / p) (wn h / q) = s
  split
  · show (p * 2 * s, q * 2 * s) = (p * s * 2, q * s * 2)
    congr 1 <;> grind
  · rfl
/-- both: the scale itself -/
theorem sh_gr {cv : Bool} {w h : Nat} (hw : Sd w) (hh : Sd h) {p q : Rat} (hp : 0 < p) (hq : 0 < q) : grG cv w h (shG cv w h p q).1 (shG cv w h p q).2 = (p * scl cv (wn w / p) (wn h / q), q * scl cv (wn w / p) (wn h / q)) := by
  have k : 0 < scl cv (wn w / p) (wn h / q) := scl_pos (div_pos (wn_pos hw) hp) (div_pos (wn_pos hh) hq)
  have at' := scl_at cv (w := wn w) (h := wn h) hp hq k
  unfold shG
  generalize es : scl cv (wn w / p) (wn h / q) = s at *
  rw [div_self' k] at at'
  split
  · unfold grG
    simp only [at', Rat.lt_irrefl, if_false]
  · rename_i c
    unfold grG
    simp only [es]
    split
    · rfl
    · rename_i c2
      have : s = 1 := by
        rcases rat_tri s 1 with z | z | z
        · exact absurd z c
        · exact z
        · exact absurd z c2
      rw [this, Rat.mul_one, Rat.mul_one]
theorem gr_sh {cv : Bool} {w h : Nat} (hw : Sd w) (hh : Sd h) {p q : Rat} (hp : 0 < p) (hq : 0 < q) : shG cv w h (grG cv w h p q).1 (grG cv w h p q).2 = (p * scl cv (wn w / p) (wn h / q), q * scl cv (wn w / p) (wn h / q)) := by
  have k : 0 < scl cv (wn w / p) (wn h / q) := scl_pos (div_pos (wn_pos hw) hp) (div_pos (wn_pos hh) hq)
  have at' := scl_at cv (w := wn w) (h := wn h) hp hq k
  unfold grG
  generalize es : scl cv (wn w / p) (wn h / q) = s at *
  rw [div_self' k] at at'
  split
  · unfold shG
    simp only [at', Rat.lt_irrefl, if_false]
  · rename_i c
    unfold shG
    simp only [es]
    split
    · rfl
    · rename_i c2
      have : s = 1 := by
        rcases rat_tri s 1 with z | z | z
        · exact absurd z c2
        · exact z
        · exact absurd z c
      rw [this, Rat.mul_one, Rat.mul_one]
theorem mul_div' {w p : Rat} (hp : 0 < p) : p * (w / p) = w := by
  have := ne_of_pos hp
  grind
/-- a side in common -/
theorem scl_side {cv : Bool} {w h p q : Rat} (hp : 0 < p) (hq : 0 < q) : p * scl cv (w / p) (h / q) = w ∨ q * scl cv (w / p) (h / q) = h := by
  rcases scl_or cv (w / p) (h / q) with e | e
  · exact .inl (by rw [e, mul_div' hp])
  · exact .inr (by rw [e, mul_div' hq])
theorem scl_t (x y : Rat) : ¬ scl true x y < x ∧ ¬ scl true x y < y := by
  unfold scl
  rw [if_pos rfl]
  split
  · rename_i h
    exact ⟨Rat.lt_irrefl, lt_asymm' h⟩
  · rename_i h
    exact ⟨h, Rat.lt_irrefl⟩
theorem scl_f (x y : Rat) : ¬ x < scl false x y ∧ ¬ y < scl false x y := by
  unfold scl
  rw [if_neg (by decide)]
  split
  · rename_i h
    exact ⟨Rat.lt_irrefl, lt_asymm' h⟩
  · rename_i h
    exact ⟨h, Rat.lt_irrefl⟩
theorem lt_mul' {w p s : Rat} (hp : 0 < p) : p * s < w ↔ s < w / p := by
  rw [Rat.lt_div_iff hp, Rat.mul_comm]
theorem mul_lt' {w p s : Rat} (hp : 0 < p) : w < p * s ↔ w / p < s := by
  rw [Rat.div_lt_iff hp, Rat.mul_comm]
/-- the limit is in both, or both in the limit -/
theorem scl_in {cv : Bool} {w h p q : Rat} (hp : 0 < p) (hq : 0 < q) : (cv = true → szIn w h (p * scl cv (w / p) (h / q)) (q * scl cv (w / p) (h / q)) = true) ∧ (cv = false → szIn (p * scl cv (w / p) (h / q)) (q * scl cv (w / p) (h / q)) w h = true) := by
  constructor
  · rintro rfl
    have := scl_t (w / p) (h / q)
    unfold szIn
    rw [decide_eq_true (mt (lt_mul' hp).mp this.1), decide_eq_true (mt (lt_mul' hq).mp this.2)]
    rfl
  · rintro rfl
    have := scl_f (w / p) (h / q)
    unfold szIn
    rw [decide_eq_true (mt (mul_lt' hp).mp this.1), decide_eq_true (mt (mul_lt' hq).mp this.2)]
    rfl
/-! ### done twice -/
theorem Sp.twice {s : Sp} (hs : s.ok) (hn : ∀ n, s ≠ .tn n) {p q : Rat} (hp : 0 < p) (hq : 0 < q) : s.g (s.g p q).1 (s.g p q).2 = s.g p q := by
  cases s with
  | sh w h cv =>
    have k : 0 < scl cv (wn w / p) (wn h / q) := scl_pos (div_pos (wn_pos hs.1) hp) (div_pos (wn_pos hs.2) hq)
    have at' := scl_at cv (w := wn w) (h := wn h) hp hq k
    show shG cv w h (shG cv w h p q).1 (shG cv w h p q).2 = shG cv w h p q
    by_cases c : scl cv (wn w / p) (wn h / q) < 1
    · have e : shG cv w h p q = (p * scl cv (wn w / p) (wn h / q), q * scl cv (wn w / p) (wn h / q)) := if_pos c
      rw [e]
      show (if _ then _ else _) = _
      rw [at', div_self' k, if_neg Rat.lt_irrefl]
    · have e : shG cv w h p q = (p, q) := if_neg c
      rw [e]
      exact e
  | gr w h cv =>
    have k : 0 < scl cv (wn w / p) (wn h / q) := scl_pos (div_pos (wn_pos hs.1) hp) (div_pos (wn_pos hs.2) hq)
    have at' := scl_at cv (w := wn w) (h := wn h) hp hq k
    show grG cv w h (grG cv w h p q).1 (grG cv w h p q).2 = grG cv w h p q
    by_cases c : 1 < scl cv (wn w / p) (wn h / q)
    · have e : grG cv w h p q = (p * scl cv (wn w / p) (wn h / q), q * scl cv (wn w / p) (wn h / q)) := if_pos c
      rw [e]
      show (if _ then _ else _) = _
      rw [at', div_self' k, if_neg Rat.lt_irrefl]
    · have e : grG cv w h p q = (p, q) := if_neg c
      rw [e]
      exact e
  | cw w h k =>
    show cwG w h (cwG w h p q).1 (cwG w h p q).2 = cwG w h p q
    by_cases c : q * rt w h < p
    · have e : cwG w h p q = (q * rt w h, q) := if_pos c
      rw [e]
      exact if_neg Rat.lt_irrefl
    · have e : cwG w h p q = (p, q) := if_neg c
      rw [e]
      exact e
  | ch w h k =>
    show chG w h (chG w h p q).1 (chG w h p q).2 = chG w h p q
    by_cases c : p * rt h w < q
    · have e : chG w h p q = (p, p * rt h w) := if_pos c
      rw [e]
      exact if_neg Rat.lt_irrefl
    · have e : chG w h p q = (p, q) := if_neg c
      rw [e]
      exact e
  | tn n => exact absurd rfl (hn n)
  | ls =>
    show lsG (lsG p q).1 (lsG p q).2 = lsG p q
    by_cases c : p < q
    · have e : lsG p q = (q, p) := if_pos c
      rw [e]
      exact if_neg (lt_asymm' c)
    · have e : lsG p q = (p, q) := if_neg c
      rw [e]
      exact e
  | po =>
    show poG (poG p q).1 (poG p q).2 = poG p q
    by_cases c : q < p
    · have e : poG p q = (q, p) := if_pos c
      rw [e]
      exact if_neg (lt_asymm' c)
    · have e : poG p q = (p, q) := if_neg c
      rw [e]
      exact e
theorem szIn_self (a b : Rat) : szIn a b a b = true := by
  unfold szIn
  simp [Rat.lt_irrefl]
theorem szIn_of {a b c d : Rat} (h1 : ¬ c < a) (h2 : ¬ d < b) : szIn a b c d = true := by
  unfold szIn
  rw [decide_eq_true h1, decide_eq_true h2]
  rfl
theorem le_self {p s : Rat} (hp : 0 < p) (hs : s < 1) : ¬ p < p * s := by
  have : p * s < p * 1 := (Rat.mul_lt_mul_left hp).mpr hs
  rw [Rat.mul_one] at this
  exact lt_asymm' this
theorem ge_self {p s : Rat} (hp : 0 < p) (hs : 1 < s) : ¬ p * s < p := by
  have : p * 1 < p * s := (Rat.mul_lt_mul_left hp).mpr hs
  rw [Rat.mul_one] at this
  exact lt_asymm' this
theorem one_div {w p : Rat} (hp : 0 < p) : w / p < 1 ↔ w < p := by
  rw [Rat.div_lt_iff hp, Rat.one_mul]
theorem div_one' {w p : Rat} (hp : 0 < p) : 1 < w / p ↔ p < w := by
  rw [Rat.lt_div_iff hp, Rat.one_mul]
/-- a shrink's box -/
theorem sh_right {cv : Bool} {w h : Nat} (hw : Sd w) (hh : Sd h) {p q : Rat} (hp : 0 < p) (hq : 0 < q) : szIn (shG cv w h p q).1 (shG cv w h p q).2 p q = true ∧ (cv = true → (decide (wn w < (shG cv w h p q).1) && decide (wn h < (shG cv w h p q).2)) = false) ∧ (cv = false → szIn (shG cv w h p q).1 (shG cv w h p q).2 (wn w) (wn h) = true) := by
  have sd := scl_side (cv := cv) (w := wn w) (h := wn h) hp hq
  have si := scl_in (cv := cv) (w := wn w) (h := wn h) hp hq
  by_cases c : scl cv (wn w / p) (wn h / q) < 1
  · have e : shG cv w h p q = (p * scl cv (wn w / p) (wn h / q), q * scl cv (wn w / p) (wn h / q)) := if_pos c
    rw [e]
    refine ⟨szIn_of (le_self hp c) (le_self hq c), fun _ => ?_, si.2⟩
    rcases sd with d | d
    · show (decide (wn w < p * scl cv (wn w / p) (wn h / q)) && _) = false
      rw [d, decide_eq_false Rat.lt_irrefl]
      rfl
    · show (_ && decide (wn h < q * scl cv (wn w / p) (wn h / q))) = false
      rw [d, decide_eq_false (p := wn h < wn h) Rat.lt_irrefl, Bool.and_false]
  · have e : shG cv w h p q = (p, q) := if_neg c
    rw [e]
    refine ⟨szIn_self _ _, fun hc => ?_, fun hc => ?_⟩
    · subst hc
      rcases scl_or true (wn w / p) (wn h / q) with k | k
      · rw [k, one_div hp] at c
        show (decide (wn w < p) && _) = false
        rw [decide_eq_false c]
        rfl
      · rw [k, one_div hq] at c
        show (_ && decide (wn h < q)) = false
        rw [decide_eq_false c, Bool.and_false]
    · subst hc
      have f := scl_f (wn w / p) (wn h / q)
      refine szIn_of (fun z => ?_) (fun z => ?_)
      · have z1 := (one_div hp).mpr z
        have f1 := f.1
        grind
      · have z1 := (one_div hq).mpr z
        have f1 := f.2
        grind
theorem gr_right {cv : Bool} {w h : Nat} (hw : Sd w) (hh : Sd h) {p q : Rat} (hp : 0 < p) (hq : 0 < q) : szIn p q (grG cv w h p q).1 (grG cv w h p q).2 = true ∧ (cv = true → szIn (wn w) (wn h) (grG cv w h p q).1 (grG cv w h p q).2 = true) ∧ (cv = false → (decide ((grG cv w h p q).1 < wn w) && decide ((grG cv w h p q).2 < wn h)) = false) := by
  have sd := scl_side (cv := cv) (w := wn w) (h := wn h) hp hq
  have si := scl_in (cv := cv) (w := wn w) (h := wn h) hp hq
  by_cases c : 1 < scl cv (wn w / p) (wn h / q)
  · have e : grG cv w h p q = (p * scl cv (wn w / p) (wn h / q), q * scl cv (wn w / p) (wn h / q)) := if_pos c
    rw [e]
    refine ⟨szIn_of (ge_self hp c) (ge_self hq c), si.1, fun _ => ?_⟩
    rcases sd with d | d
    · show (decide (p * scl cv (wn w / p) (wn h / q) < wn w) && _) = false
      rw [d, decide_eq_false Rat.lt_irrefl]
      rfl
    · show (_ && decide (q * scl cv (wn w / p) (wn h / q) < wn h)) = false
      rw [d, decide_eq_false (p := wn h < wn h) Rat.lt_irrefl, Bool.and_false]
  · have e : grG cv w h p q = (p, q) := if_neg c
    rw [e]
    refine ⟨szIn_self _ _, fun hc => ?_, fun hc => ?_⟩
    · subst hc
      have f := scl_t (wn w / p) (wn h / q)
      refine szIn_of (fun z => ?_) (fun z => ?_)
      · have z1 := (div_one' hp).mpr z
        have f1 := f.1
        grind
      · have z1 := (div_one' hq).mpr z
        have f1 := f.2
        grind
    · subst hc
      rcases scl_or false (wn w / p) (wn h / q) with k | k
      · rw [k, div_one' hp] at c
        show (decide (p < wn w) && _) = false
        rw [decide_eq_false c]
        rfl
      · rw [k, div_one' hq] at c
        show (_ && decide (q < wn h)) = false
        rw [decide_eq_false c, Bool.and_false]
theorem rt_inv {w h : Nat} (hw : Sd w) (hh : Sd h) : rt h w * rt w h = 1 := by
  unfold rt
  have h1 : (w : Rat) ≠ 0 := by
    intro z
    have := Rat.natCast_eq_zero_iff.mp z
    have := hw.1
    omega
  have h2 : (h : Rat) ≠ 0 := by
    intro z
    have := Rat.natCast_eq_zero_iff.mp z
    have := hh.1
    omega
  rw [Rat.mkRat_eq_div, Rat.mkRat_eq_div]
  show ((h : Rat) / (w : Rat)) * ((w : Rat) / (h : Rat)) = 1
  grind
/-- a crop's ratio -/
theorem cw_right {w h : Nat} (hw : Sd w) (hh : Sd h) {p q : Rat} (hp : 0 < p) (hq : 0 < q) : szIn (cwG w h p q).1 (cwG w h p q).2 p q = true ∧ ((cwG w h p q) = (p, q) ∨ (cwG w h p q).1 / (cwG w h p q).2 = rt w h) ∧ ¬ rt w h < (cwG w h p q).1 / (cwG w h p q).2 ∧ (cwG w h p q).2 = q := by
  by_cases c : q * rt w h < p
  · have e : cwG w h p q = (q * rt w h, q) := if_pos c
    have r : q * rt w h / q = rt w h := by
      have := ne_of_pos hq
      grind
    rw [e]
    refine ⟨szIn_of (lt_asymm' c) Rat.lt_irrefl, .inr r, ?_, rfl⟩
    show ¬ rt w h < q * rt w h / q
    rw [r]
    exact Rat.lt_irrefl
  · have e : cwG w h p q = (p, q) := if_neg c
    rw [e]
    refine ⟨szIn_self _ _, .inl rfl, ?_, rfl⟩
    show ¬ rt w h < p / q
    rw [Rat.lt_div_iff hq, Rat.mul_comm]
    exact c
theorem ch_right {w h : Nat} (hw : Sd w) (hh : Sd h) {p q : Rat} (hp : 0 < p) (hq : 0 < q) : szIn (chG w h p q).1 (chG w h p q).2 p q = true ∧ ((chG w h p q) = (p, q) ∨ (chG w h p q).1 / (chG w h p q).2 = rt w h) ∧ ¬ (chG w h p q).1 / (chG w h p q).2 < rt w h ∧ (chG w h p q).1 = p := by
  have ri := rt_inv hw hh
  have r0 := rt_pos hw hh
  by_cases c : p * rt h w < q
  · have e : chG w h p q = (p, p * rt h w) := if_pos c
    have r : p / (p * rt h w) = rt w h := by
      have h1 := ne_of_pos hp
      have h2 := ne_of_pos (rt_pos hh hw)
      grind
    rw [e]
    refine ⟨szIn_of Rat.lt_irrefl (lt_asymm' c), .inr r, ?_, rfl⟩
    show ¬ p / (p * rt h w) < rt w h
    rw [r]
    exact Rat.lt_irrefl
  · have e : chG w h p q = (p, q) := if_neg c
    rw [e]
    refine ⟨szIn_self _ _, .inl rfl, ?_, rfl⟩
    show ¬ p / q < rt w h
    rw [Rat.div_lt_iff hq]
    intro z
    refine c ?_
    have : p * rt h w < rt w h * q * rt h w := (Rat.mul_lt_mul_right (rt_pos hh hw)).mpr z
    have e2 : rt w h * q * rt h w = q := by grind
    rw [e2] at this
    exact this
theorem tn_four {n : Nat} (hn : n = 1 ∨ n = 2 ∨ n = 3) (p q : Rat) : tnG n (tnG n (tnG n (tnG n p q).1 (tnG n p q).2).1 (tnG n (tnG n p q).1 (tnG n p q).2).2).1 (tnG n (tnG n (tnG n p q).1 (tnG n p q).2).1 (tnG n (tnG n p q).1 (tnG n p q).2).2).2 = (p, q) := by
  rcases hn with rfl | rfl | rfl <;> rfl
/-! ### not one object -/
theorem vals_ints {xs ys : List Int} {us : List Value} (h1 : Vals (xs.map V.int) us) (h2 : Vals (ys.map V.int) us) : xs = ys := by
  induction xs generalizing ys us with
  | nil =>
    cases h1
    cases ys with
    | nil => rfl
    | cons y ys => cases h2
  | cons x xs ih =>
    cases h1 with
    | cons r1 h1 =>
      cases ys with
      | nil => cases h2
      | cons y ys =>
        cases h2 with
        | cons r2 h2 =>
          obtain ⟨t, rfl⟩ := r1
          obtain ⟨t', e⟩ := r2
          cases e
          rw [ih h1 h2]
theorem rep_fr {X : Cx} {pins : List (Addr × Obj)} {σ : L2.St} {H : Hp} {s : Shared} {o : Wo} {st : Store} {v : V} {p q : Rat} (I : Inv X pins σ H s) (w : Wd X.K o H st) (r1 : Rep X.K o v (fr p)) (r2 : Rep X.K o v (fr q)) : p = q := by
  cases r1 with
  | tup a1 b1 =>
    cases r2 with
    | tup a2 b2 =>
      obtain ⟨i1, v1, t1, _⟩ := I.tuple (sqT_up w a1)
      obtain ⟨i2, v2, t2, _⟩ := I.tuple (sqT_up w a2)
      have e : i1 = i2 := by
        obtain ⟨o1, g1, _, n1, d1⟩ := t1
        obtain ⟨o2, g2, _, n2, d2⟩ := t2
        rw [g1] at g2
        cases g2
        rw [d1] at d2
        injection d2 with d2
        simpa using d2
      subst e
      have f : ∀ {vs : List V} {z : Rat}, Reps X.K o vs [.int z.num, .int (z.den : Nat)] → vs = [z.num, (z.den : Int)].map V.int := fun r => by
        cases r with
        | cons x r =>
          cases r with
          | cons y r =>
            cases r
            cases x
            cases y
            rfl
      have e1 := f b1
      have e2 := f b2
      rw [e1] at v1
      rw [e2] at v2
      have e3 := vals_ints v1 v2
      injection e3 with e3 e4
      injection e4 with e4 _
      exact Rat.ext e3 (by omega)
theorem apart_sz {p q p' q' : Rat} (h : ¬ (p = p' ∧ q = q')) : Apart (sz p q) (sz p' q') := fun X pins σ H s o st v I w r1 r2 => by
  cases r1 with
  | obj a1 b1 l1 c1 =>
    cases r2 with
    | obj a2 b2 l2 c2 =>
      rename_i vs1 _ vs2
      rw [a1] at a2
      injection a2 with a2
      injection a2 with _ _ a2
      cases c1 with
      | cons x1 c1 =>
        cases c1 with
        | cons y1 c1 =>
          cases c1
          cases c2 with
          | cons x2 c2 =>
            cases c2 with
            | cons y2 c2 =>
              cases c2
              injection a2 with e1 e2
              injection e2 with e2 _
              injection e1 with _ e1
              injection e2 with _ e2
              subst e1 e2
              exact h ⟨rep_fr I w x1 x2, rep_fr I w y1 y2⟩
end DS
namespace DS
open PySem L2 PyProof.Rows
local macro_rules | `(tactic| walk_at "ev") => `(tactic| first | simp -dsimp -implicitDefEqProofs only [↓p_body, ↓p_sNil, ↓p_sSeq, ↓p_sAsg, ↓p_sPar, ↓p_sExp, ↓p_sRet, ↓p_sIf, ↓p_sFor, ↓p_for0, ↓p_forS, ↓p_sBrk, ↓p_sCnt, ↓p_sBad, ↓p_sOwn, ↓p_sApp, ↓p_sFrz, ↓p_eVar, ↓p_eC, ↓p_eUn, ↓p_eBin, ↓p_aNil, ↓p_aCons, ↓p_eTup, ↓p_eLst, ↓p_eCell, ↓p_eCallK, ↓p_eBlt, ↓p_tE, ↓p_tNt, ↓p_tAn, ↓p_tOr, ↓p_tYs, ↓p_eIf, ↓p_eAn, ↓p_eOr, ↓p_eNt, ↓p_eIxx, ↓p_oNone, ↓p_oSome, ↓p_eSll, ↓p_eChn, ↓p_eIter, ↓p_eRng, ↓p_gTg, ↓p_gTp1, ↓p_gTp2, ↓p_gTp3, ↓p_gTp4, ↓p_gTp5, ↓p_gTp6, ↓p_gTp7, ↓p_gMany0, ↓p_gManyS, ↓p_gCell, ↓p_eAttr, ↓p_eMeth, ↓p_eMake, ↓p_gFld, ↓p_tIf, ↓p_eJs, ↓p_js0, ↓p_jsS, ↓p_eBinC, ↓p_eBltC, ↓p_eMake0, ↓p_oMul, ↓p_oEq, ↓p_oIn, ↓p_oText, ↓p_eSlO, ↓p_sOwnA, ↓p_eBinS, ↓p_oAdd, ↓p_oIx, ↓p_aStar, ↓p_eMakeS, ↓p_eEnum, ↓p_oLen, ↓p_eZip, ↓p_eMakeVS, ↓p_eTupS, ↓p_eLstS, ↓p_oBool, ↓p_eLz, ↓bnd_ok, bnd_ok, ↓bnd_exc, bnd_exc, noX_ok, ↓bind_ok, ↓to_bnd, lift_some, bnd_bnd, ↓reduceIte, bindT, bindTs, dIter, dEnum, dSeq, dTru, pickD, dEq_int, dNe_int, dEq_bl, dNe_bl, dEq_str, dNe_str, dLt, dLe, dGt, dGe, dAdd, dSub, dNeg, dIs, dIsNot, isNon, dIsO_non, dIsO_bl, dIsO_int, dIsO_str, dIsO_tup, dIsO_lst, dIsO_emp, dIsO_scr, dIsO_fr, dIsi, tyName, kit_int_int, kit_int_bool, kit_tuple_tuple, dInt, fr_ix0, fr_ix1, tup_ix0, tup_ix1, fr_len, fr_tup, dEq_fr, dNe_fr, frz_end, kk0, kk1, kk2, kk3, Option.bind_some, Option.map_some,
  List.map_cons, List.map_nil, List.getD_cons_zero, List.getD_cons_succ, List.getElem?_cons_zero, List.getElem?_cons_succ, List.getElem?_nil, List.set_cons_zero, List.set_cons_succ, List.length_cons, List.length_nil, List.replicate, List.cons_append, List.nil_append, Nat.reduceAdd, Nat.reduceSub, if_true, if_false, decide_true, decide_false, not_true_eq_false, not_false_eq_true, Bool.not_true, Bool.not_false, Bool.true_eq_false, Bool.false_eq_true, reduceCtorEq] | skip)
local macro_rules | `(tactic| simp_arith [$xs,*]) => `(tactic| simp -dsimp -implicitDefEqProofs only [$xs,*, ↓p_body, ↓p_sNil, ↓p_sSeq, ↓p_sAsg, ↓p_sPar, ↓p_sExp, ↓p_sRet, ↓p_sIf, ↓p_sFor, ↓p_for0, ↓p_forS, ↓p_sBrk, ↓p_sCnt, ↓p_sBad, ↓p_sOwn, ↓p_sApp, ↓p_sFrz, ↓p_eVar, ↓p_eC, ↓p_eUn, ↓p_eBin, ↓p_aNil, ↓p_aCons, ↓p_eTup, ↓p_eLst, ↓p_eCell, ↓p_eCallK, ↓p_eBlt, ↓p_tE, ↓p_tNt, ↓p_tAn, ↓p_tOr, ↓p_tYs, ↓p_eIf, ↓p_eAn, ↓p_eOr, ↓p_eNt, ↓p_eIxx, ↓p_oNone, ↓p_oSome, ↓p_eSll, ↓p_eChn, ↓p_eIter, ↓p_eRng, ↓p_gTg, ↓p_gTp1, ↓p_gTp2, ↓p_gTp3, ↓p_gTp4, ↓p_gTp5, ↓p_gTp6, ↓p_gTp7, ↓p_gMany0, ↓p_gManyS, ↓p_gCell, ↓p_eAttr, ↓p_eMeth, ↓p_eMake, ↓p_gFld, ↓p_tIf, ↓p_eJs, ↓p_js0, ↓p_jsS, ↓p_eBinC, ↓p_eBltC, ↓p_eMake0, ↓p_oMul, ↓p_oEq, ↓p_oIn, ↓p_oText, ↓p_eSlO, ↓p_sOwnA, ↓p_eBinS, ↓p_oAdd, ↓p_oIx, ↓p_aStar, ↓p_eMakeS, ↓p_eEnum, ↓p_oLen, ↓p_eZip, ↓p_eMakeVS, ↓p_eTupS, ↓p_eLstS, ↓p_oBool, ↓p_eLz, ↓bnd_ok, bnd_ok, ↓bnd_exc, bnd_exc, noX_ok, ↓bind_ok, ↓to_bnd, lift_some, bnd_bnd, ↓reduceIte, bindT, bindTs, dIter, dEnum, dSeq, dTru, pickD, dEq_int, dNe_int, dEq_bl, dNe_bl, dEq_str, dNe_str, dLt, dLe, dGt, dGe, dAdd, dSub, dNeg, dIs, dIsNot, isNon, dIsO_non, dIsO_bl, dIsO_int, dIsO_str, dIsO_tup, dIsO_lst, dIsO_emp, dIsO_scr, dIsO_fr, dIsi, tyName, kit_int_int, kit_int_bool, kit_tuple_tuple, dInt, fr_ix0, fr_ix1, tup_ix0, tup_ix1, fr_len, fr_tup, dEq_fr, dNe_fr, frz_end, kk0, kk1, kk2, kk3, Option.bind_some, Option.map_some,
  List.map_cons, List.map_nil, List.getD_cons_zero, List.getD_cons_succ, List.getElem?_cons_zero, List.getElem?_cons_succ, List.getElem?_nil, List.set_cons_zero, List.set_cons_succ, List.length_cons, List.length_nil, List.replicate, List.cons_append, List.nil_append, Nat.reduceAdd, Nat.reduceSub, if_true, if_false, decide_true, decide_false, not_true_eq_false, not_false_eq_true, Bool.not_true, Bool.not_false, Bool.true_eq_false, Bool.false_eq_true, reduceCtorEq])
local macro_rules | `(tactic| walk_at "evx") => `(tactic| first | simp -dsimp -implicitDefEqProofs only [*, ↓p_body, ↓p_sNil, ↓p_sSeq, ↓p_sAsg, ↓p_sPar, ↓p_sExp, ↓p_sRet, ↓p_sIf, ↓p_sFor, ↓p_for0, ↓p_forS, ↓p_sBrk, ↓p_sCnt, ↓p_sBad, ↓p_sOwn, ↓p_sApp, ↓p_sFrz, ↓p_eVar, ↓p_eC, ↓p_eUn, ↓p_eBin, ↓p_aNil, ↓p_aCons, ↓p_eTup, ↓p_eLst, ↓p_eCell, ↓p_eCallK, ↓p_eBlt, ↓p_tE, ↓p_tNt, ↓p_tAn, ↓p_tOr, ↓p_tYs, ↓p_eIf, ↓p_eAn, ↓p_eOr, ↓p_eNt, ↓p_eIxx, ↓p_oNone, ↓p_oSome, ↓p_eSll, ↓p_eChn, ↓p_eIter, ↓p_eRng, ↓p_gTg, ↓p_gTp1, ↓p_gTp2, ↓p_gTp3, ↓p_gTp4, ↓p_gTp5, ↓p_gTp6, ↓p_gTp7, ↓p_gMany0, ↓p_gManyS, ↓p_gCell, ↓p_eAttr, ↓p_eMeth, ↓p_eMake, ↓p_gFld, ↓p_tIf, ↓p_eJs, ↓p_js0, ↓p_jsS, ↓p_eBinC, ↓p_eBltC, ↓p_eMake0, ↓p_oMul, ↓p_oEq, ↓p_oIn, ↓p_oText, ↓p_eSlO, ↓p_sOwnA, ↓p_eBinS, ↓p_oAdd, ↓p_oIx, ↓p_aStar, ↓p_eMakeS, ↓p_eEnum, ↓p_oLen, ↓p_eZip, ↓p_eMakeVS, ↓p_eTupS, ↓p_eLstS, ↓p_oBool, ↓p_eLz, ↓bnd_ok, bnd_ok, ↓bnd_exc, bnd_exc, noX_ok, ↓bind_ok, ↓to_bnd, lift_some, bnd_bnd, ↓reduceIte, bindT, bindTs, dIter, dEnum, dSeq, dTru, pickD, dEq_int, dNe_int, dEq_bl, dNe_bl, dEq_str, dNe_str, dLt, dLe, dGt, dGe, dAdd, dSub, dNeg, dIs, dIsNot, isNon, dIsO_non, dIsO_bl, dIsO_int, dIsO_str, dIsO_tup, dIsO_lst, dIsO_emp, dIsO_scr, dIsO_fr, dIsi, tyName, kit_int_int, kit_int_bool, kit_tuple_tuple, dInt, fr_ix0, fr_ix1, tup_ix0, tup_ix1, fr_len, fr_tup, dEq_fr, dNe_fr, frz_end, kk0, kk1, kk2, kk3, Option.bind_some, Option.map_some,
  List.map_cons, List.map_nil, List.getD_cons_zero, List.getD_cons_succ, List.getElem?_cons_zero, List.getElem?_cons_succ, List.getElem?_nil, List.set_cons_zero, List.set_cons_succ, List.length_cons, List.length_nil, List.replicate, List.cons_append, List.nil_append, Nat.reduceAdd, Nat.reduceSub, if_true, if_false, decide_true, decide_false, not_true_eq_false, not_false_eq_true, Bool.not_true, Bool.not_false, Bool.true_eq_false, Bool.false_eq_true, reduceCtorEq] | skip)
/-! ## is_whole -/
theorem ok_whole {C C' : FEnv} (e : C' "is_whole" = body 3 b_is_whole C) : IsWh C' := fun x lo hi st hx hh => by
  rw [e]
  unfold b_is_whole
  cases x with
  | int a =>
    by_cases h : a < lo
    · have c1 := decide_eq_true h
      have c2 := decide_eq_false (show ¬ lo ≤ a by omega)
      simp_arith [c1, c2, isWh, Bool.false_and]
    · have c1 := decide_eq_false h
      have c2 := decide_eq_true (show lo ≤ a by omega)
      rcases hh with rfl | ⟨k, rfl⟩
      · simp_arith [c1, c2, isWh, Bool.true_and]
      · simp_arith [c1, c2, isWh, Bool.true_and]
  | ty _ => cases hx
  | cell _ => cases hx
  | obj _ _ _ => cases hx
  | cls _ => cases hx
  | bl b => simp_arith [kit_bool_int, kit_bool_bool, isWh]
  | _ => simp_arith [kit_str_int, kit_tuple_int, kit_list_int, kit_dict_int, kit_none_int, isWh]
/-! ## check_box -/
theorem ok_box {C C' : FEnv} (e : C' "check_box" = body 3 b_check_box C) (hw : IsWh C) : IsBox C' := fun w h st sw sh => by
  rw [e]
  unfold b_check_box
  have f : ∀ n : Nat, Sd n → ∀ st, C "is_whole" [.int (n : Nat), .int 1, .int 1000000] st = .ok (.bl true) st := fun n hn st => by
    have := hw (.int (n : Nat)) 1 (.int 1000000) st rfl (.inr ⟨_, rfl⟩)
    rw [show isWh 1 (.int 1000000) (.int (n : Nat)) = true by have := hn.1; have := hn.2; simp [isWh]; omega] at this
    exact this
  have f1 := f w sw
  have f2 := f h sh
  simp_arith [f1, f2]
/-! ## crops -/
theorem ok_keep {C C' : FEnv} (e : C' "check_keep" = body 2 b_check_keep C) : IsKeep C' := fun k st => by
  have d1 : dKey [("width", .tup [.str "left", .str "center", .str "right"]), ("height", .tup [.str "top", .str "center", .str "bottom"])] (.str "width") = some (.tup [.str "left", .str "center", .str "right"]) := by kernel_rfl
  have d2 : dKey [("width", .tup [.str "left", .str "center", .str "right"]), ("height", .tup [.str "top", .str "center", .str "bottom"])] (.str "height") = some (.tup [.str "top", .str "center", .str "bottom"]) := by kernel_rfl
  have t1 : ∀ k : Str, dIsO ctN [.str k, .ty "str"] = some (.bl true) := fun k => by kernel_rfl
  refine ⟨fun h => ?_, fun h => ?_⟩
  · rw [e]
    unfold b_check_keep
    rcases h with rfl | rfl | rfl
    · have n1 : dNotIn (.str "left") (.tup [.str "left", .str "center", .str "right"]) = some (.bl false) := by kernel_rfl
      simp_arith [d1, t1, n1]
    · have n1 : dNotIn (.str "center") (.tup [.str "left", .str "center", .str "right"]) = some (.bl false) := by kernel_rfl
      simp_arith [d1, t1, n1]
    · have n1 : dNotIn (.str "right") (.tup [.str "left", .str "center", .str "right"]) = some (.bl false) := by kernel_rfl
      simp_arith [d1, t1, n1]
  · rw [e]
    unfold b_check_keep
    rcases h with rfl | rfl | rfl
    · have n1 : dNotIn (.str "top") (.tup [.str "top", .str "center", .str "bottom"]) = some (.bl false) := by kernel_rfl
      simp_arith [d2, t1, n1]
    · have n1 : dNotIn (.str "center") (.tup [.str "top", .str "center", .str "bottom"]) = some (.bl false) := by kernel_rfl
      simp_arith [d2, t1, n1]
    · have n1 : dNotIn (.str "bottom") (.tup [.str "top", .str "center", .str "bottom"]) = some (.bl false) := by kernel_rfl
      simp_arith [d2, t1, n1]
/-! ## scalings -/
theorem ok_scalI {C C' : FEnv} (e : C' "Scaling.__init__" = body 4 b_Scaling___init__ C) (hb : IsBox C) {c : Str} (t1 : (attrTab ctA "width").lookup c = some .fld) (t2 : (attrTab ctA "height").lookup c = some .fld) (t3 : (attrTab ctA "cover").lookup c = some .fld) : IsScalI "Scaling.__init__" c C' := fun w h cv st sw sh => by
  rw [e]
  unfold b_Scaling___init__
  have f := fun st => hb w h st sw sh
  have n1 : putN "width" [] = (["width"] : List Str) := rfl
  have n2 : putN "height" (["width"] : List Str) = (["width", "height"] : List Str) := by kernel_rfl
  have n3 : putN "cover" (["width", "height"] : List Str) = (["width", "height", "cover"] : List Str) := by kernel_rfl
  have x1 : putX "width" (D.int (w : Nat)) [] [] = [D.int (w : Nat)] := rfl
  have x2 : putX "height" (D.int (h : Nat)) (["width"] : List Str) [D.int (w : Nat)] = [D.int (w : Nat), .int (h : Nat)] := by kernel_rfl
  have x3 : putX "cover" (D.bl cv) (["width", "height"] : List Str) [D.int (w : Nat), .int (h : Nat)] = [D.int (w : Nat), .int (h : Nat), .bl cv] := by kernel_rfl
  simp_arith [f, get_end, set_end, t1, t2, t3, n1, n2, n3, x1, x2, x3]
theorem ok_shrinkI {C C' : FEnv} (e : C' "Shrink.__init__" = body 4 b_Shrink___init__ C) (hs : IsScalI "Scaling.__init__" "Shrink" C) : IsScalI "Shrink.__init__" "Shrink" C' := fun w h cv st sw sh => by
  rw [e]
  unfold b_Shrink___init__
  have f := hs w h cv st sw sh
  simp_arith [f]
theorem ok_growI {C C' : FEnv} (e : C' "Grow.__init__" = body 4 b_Grow___init__ C) (hs : IsScalI "Scaling.__init__" "Grow" C) : IsScalI "Grow.__init__" "Grow" C' := fun w h cv st sw sh => by
  rw [e]
  unfold b_Grow___init__
  have f := hs w h cv st sw sh
  simp_arith [f]
theorem ok_cropI0 {C C' : FEnv} (e : C' "Crop.__init__" = body 4 b_Crop___init__ C) (hb : IsBox C) {c wd : Str} (t0 : (attrTab ctA "WORD").lookup c = some (.con (.str wd))) (t1 : (attrTab ctA "width").lookup c = some .fld) (t2 : (attrTab ctA "height").lookup c = some .fld) (t3 : (attrTab ctA "keep").lookup c = some .fld)
    (hk : ∀ k st, KeepOk c k → C "check_keep" [.str wd, .str k] st = .ok .non st) : IsCropI "Crop.__init__" c C' := fun w h k st sw sh ko => by
  rw [e]
  unfold b_Crop___init__
  have f := fun st => hb w h st sw sh
  have f2 := fun st => hk k st ko
  have a0 : ∀ C : FEnv, attrD C "WORD" (attrTab ctA "WORD") (.cell st.length) (st ++ [.obj c [] []]) = .ok (.str wd) (st ++ [.obj c [] []]) := fun _ => con_end t0 rfl
  have n1 : putN "width" [] = (["width"] : List Str) := rfl
  have n2 : putN "height" (["width"] : List Str) = (["width", "height"] : List Str) := by kernel_rfl
  have n3 : putN "keep" (["width", "height"] : List Str) = (["width", "height", "keep"] : List Str) := by kernel_rfl
  have x1 : putX "width" (D.int (w : Nat)) [] [] = [D.int (w : Nat)] := rfl
  have x2 : putX "height" (D.int (h : Nat)) (["width"] : List Str) [D.int (w : Nat)] = [D.int (w : Nat), .int (h : Nat)] := by kernel_rfl
  have x3 : putX "keep" (D.str k) (["width", "height"] : List Str) [D.int (w : Nat), .int (h : Nat)] = [D.int (w : Nat), .int (h : Nat), .str k] := by kernel_rfl
  simp_arith [f, f2, a0, get_end, set_end, t1, t2, t3, n1, n2, n3, x1, x2, x3]
theorem ok_cropwidthI {C C' : FEnv} (e : C' "CropWidth.__init__" = body 4 b_CropWidth___init__ C) (hs : IsCropI "Crop.__init__" "CropWidth" C) : IsCropI "CropWidth.__init__" "CropWidth" C' := fun w h k st sw sh ko => by
  rw [e]
  unfold b_CropWidth___init__
  have f := hs w h k st sw sh ko
  simp_arith [f]
theorem ok_cropheightI {C C' : FEnv} (e : C' "CropHeight.__init__" = body 4 b_CropHeight___init__ C) (hs : IsCropI "Crop.__init__" "CropHeight" C) : IsCropI "CropHeight.__init__" "CropHeight" C' := fun w h k st sw sh ko => by
  rw [e]
  unfold b_CropHeight___init__
  have f := hs w h k st sw sh ko
  simp_arith [f]
/-! ## Turn, Landscape, Portrait -/
theorem ok_turnI {C C' : FEnv} (e : C' "Turn.__init__" = body 2 b_Turn___init__ C) (hw : IsWh C) : IsTurnI C' := fun n st h1 h3 => by
  rw [e]
  unfold b_Turn___init__
  have t1 : (attrTab ctA "times").lookup ("Turn" : Str) = some .fld := by kernel_rfl
  have l1 : dLen [.tup [.str "1", .str "2", .str "3"]] = some (.int 3) := rfl
  have w1 : ∀ st, C "is_whole" [.int n, .int 1, .int 3] st = .ok (.bl true) st := fun st => by
    have := hw (.int n) 1 (.int 3) st rfl (.inr ⟨3, rfl⟩)
    rw [show isWh 1 (.int 3) (.int n) = true by simp [isWh]; omega] at this
    exact this
  have n1 : putN "times" [] = (["times"] : List Str) := rfl
  have x1 : putX "times" (D.int n) [] [] = [D.int n] := rfl
  simp_arith [l1, w1, get_end, set_end, t1, n1, x1]
theorem tn_times (n : Int) : ∀ (C : FEnv) st, attrD C "times" (attrTab ctA "times") (tn n) st = .ok (.int n) st := fun _ _ => by kernel_rfl
/-! ## _law_cell, _law_pool, _law_draw -/
theorem ok_cell {C C' : FEnv} (e : C' "_law_cell" = body 4 b_law_cell C) : IsCell C' := fun ns k st hn h0 h1 => by
  rw [e]
  unfold b_law_cell
  walk_at "ev"
  simp_arith [dLen]
  by_cases c : k < (ns.length : Int)
  · simp only [decide_eq_true c]
    walk_at "ev"
    obtain ⟨z, hz⟩ : ∃ z, atI ns k = some z := by
      unfold atI ixN
      rw [if_pos h0, if_pos c]
      exact ⟨ns[k.toNat]'(by omega), by simp⟩
    simp only [dIx, hz]
    walk_at "ev"
    exact ⟨_, _, rfl, z, rfl, rfl⟩
  · simp only [decide_eq_false c]
    walk_at "ev"
    have m1 := dMul_small (i := k) (j := k) (by left; constructor <;> omega)
    have m2 := dMul_small (i := 7) (j := k) (by left; constructor <;> omega)
    have m3 := dMul_small (i := 60017) (j := k * k + 7 * k + 5) (by left; constructor <;> omega)
    have m4 := dMod_int (i := 60017 * (k * k + 7 * k + 5)) (j := 2147483137) (by decide)
    simp_arith [m1, m2, m3, m4, dSl]
    refine Gives.bind (forGo_inv (I := fun r st' => ∃ v x, r = [.val (.scr ns), .val (.int k), .val (.int v), x] ∧ 0 ≤ v ∧ v < 2147483137 ∧ st' = st) _ _ _ ?_ ⟨_, _, rfl, Int.emod_nonneg _ (by decide), Int.emod_lt_of_pos _ (by decide), rfl⟩) ?_
    · rintro x hx r st' ⟨v, y, rfl, v0, v1, rfl⟩
      obtain ⟨z, rfl⟩ : ∃ z, x = .int z := by
        have := List.mem_of_mem_drop (List.mem_of_mem_take (show x ∈ (List.take _ (List.drop _ (ns.map D.int))) from hx))
        obtain ⟨z, _, rfl⟩ := List.mem_map.mp this
        exact ⟨z, rfl⟩
      have hm := dMul_small (i := v) (j := 41011) (by right; decide)
      have hd := dMod_int (i := v * 41011 + z) (j := 2147483137) (by decide)
      walk_at "evx"
      exact ⟨_, _, rfl, _, .inl rfl, _, _, rfl, Int.emod_nonneg _ (by decide), Int.emod_lt_of_pos _ (by decide), rfl⟩
    · rintro f st' ⟨r', rfl, v, y, rfl, v0, v1, rfl⟩
      walk_at "ev"
      exact ⟨_, _, rfl, v, rfl, rfl⟩
theorem ok_pool {C C' : FEnv} (e : C' "_law_pool" = body 2 b_law_pool C) : IsPool C' := fun i st => by
  rw [e]
  unfold b_law_pool
  have hp : dPow (.int 10) (.int 18) = some (.int (10 ^ 18)) := dPow_nat 10 18 (by decide) (by decide)
  have hd := dMod_int (i := i) (j := 2147483137) (by decide)
  have hn : 0 ≤ i % 2147483137 := Int.emod_nonneg _ (by decide)
  have fin : ∀ d : Int, 0 ≤ d → PoolAt st.length (st ++ [.lst [.int (i % 2147483137), .int d, .int 0]]) := fun d h => ⟨_, d, 0, by simp, hn, h⟩
  by_cases c : i < 0
  · have c1 := decide_eq_true c
    walk_at "evx"
    simp_arith [dAbs, c, if_true]
    walk_at "evx"
    exact ⟨_, _, rfl, _, rfl, fin _ (by omega)⟩
  · have c1 := decide_eq_false c
    by_cases c2 : (10 : Int) ^ 18 ≤ i
    · have c3 := decide_eq_true c2
      walk_at "evx"
      simp_arith [dAbs, c, if_false]
      walk_at "evx"
      exact ⟨_, _, rfl, _, rfl, fin _ (by omega)⟩
    · have c3 := decide_eq_false c2
      walk_at "evx"
      exact ⟨_, _, rfl, _, rfl, fin _ (by omega)⟩
theorem pool_ix {st : Store} {p : Nat} {a b c : D} (h : st[p]? = some (.lst [a, b, c])) : dIx (.cell p) (.int 0) st = some a ∧ dIx (.cell p) (.int 1) st = some b ∧ dIx (.cell p) (.int 2) st = some c := by
  refine ⟨?_, ?_, ?_⟩ <;> (simp only [dIx, h]; rfl)
theorem pool_set {st : Store} {p : Nat} {a b c : D} (h : st[p]? = some (.lst [a, b, c])) (x y z : D) : (st.set p (.lst [x, y, z]))[p]? = some (.lst [x, y, z]) := by
  rw [List.getElem?_set_self (lt_of_get h)]
theorem ixN3 : ixN 3 0 = some 0 ∧ ixN 3 1 = some 1 ∧ ixN 3 2 = some 2 := ⟨rfl, rfl, rfl⟩
theorem ok_draw {C C' : FEnv} (e : C' "_law_draw" = body 4 b_law_draw C) : IsDraw C' := fun p m st ⟨s, d, c, hp, hs, hd⟩ hm hl => by
  rw [e]
  unfold b_law_draw
  obtain ⟨x0, x1, x2⟩ := pool_ix hp
  obtain ⟨n0, n1, n2⟩ := ixN3
  -- the count
  have p1 := pool_set hp (.int s) (.int d) (.int (c + 1))
  obtain ⟨y0, y1, y2⟩ := pool_ix p1
  have m1 := dMod_int (i := s) (j := 50023) (by decide)
  have hs2 : 0 ≤ s % 50023 + 30013 ∧ s % 50023 + 30013 < 2 ^ 64 := by
    have := Int.emod_nonneg s (show (50023 : Int) ≠ 0 by decide)
    have := Int.emod_lt_of_pos s (show (0 : Int) < 50023 by decide)
    omega
  have m2 := dMul_small (i := s) (j := s % 50023 + 30013) (by right; omega)
  have m3 := dMul_small (i := 80029) (j := c + 1) (by left; decide)
  generalize hs' : (s * (s % 50023 + 30013) + 80029 * (c + 1)) % 2147483137 = s'
  have s0 : 0 ≤ s' := by rw [← hs']; exact Int.emod_nonneg _ (by decide)
  have m4 := dMod_int (i := s * (s % 50023 + 30013) + 80029 * (c + 1)) (j := 2147483137) (by decide)
  rw [hs'] at m4
  have p2 := pool_set p1 (.int s') (.int d) (.int (c + 1))
  obtain ⟨z0, z1, z2⟩ := pool_ix p2
  by_cases c0 : 0 < d
  · have c1 := decide_eq_true c0
    have m5 := dDivmod_int (i := d) hm hl
    have p3 := pool_set p2 (.int s') (.int (d / m)) (.int (c + 1))
    walk_at "evx"
    exact ⟨_, _, rfl, _, rfl, Int.emod_nonneg _ (by omega), Int.emod_lt_of_pos _ hm, s', d / m, c + 1, p3, s0, Int.ediv_nonneg hd (by omega)⟩
  · have c1 := decide_eq_false c0
    have m5 := dFdiv_int (i := s') (j := 64) (by decide) (by decide)
    have m6 := dMod_int (i := s' / 64) hm
    walk_at "evx"
    exact ⟨_, _, rfl, _, rfl, Int.emod_nonneg _ (by omega), Int.emod_lt_of_pos _ hm, s', d, c + 1, p2, s0, hd⟩
/-! ## _law_side -/
theorem ok_side0 {C C' : FEnv} (e : C' "_law_side" = body 3 b_law_side C) (hd : IsDraw C) : IsSide0 C' := fun p g st hp => by
  rw [e]
  unfold b_law_side
  have p6 : dPow (.int 10) (.int 6) = some (.int 1000000) := dPow_nat 10 6 (by decide) (by decide)
  cases g
  · simp_arith [p6]
    refine Gives.bind (hd p 4 st hp (by decide) (by decide)) ?_
    rintro _ st1 ⟨k, rfl, k0, k4, hp1⟩
    obtain ⟨m, hm, m0, m1⟩ : ∃ m : Nat, dIx (.lst [.int 4, .int 12, .int 1000, .int 30]) (.int k) st1 = some (.int (m : Nat)) ∧ 0 < m ∧ m ≤ 1000000 := by
      have : k = 0 ∨ k = 1 ∨ k = 2 ∨ k = 3 := by omega
      rcases this with rfl | rfl | rfl | rfl
      · exact ⟨4, rfl, by decide, by decide⟩
      · exact ⟨12, rfl, by decide, by decide⟩
      · exact ⟨1000, rfl, by decide, by decide⟩
      · exact ⟨30, rfl, by decide, by decide⟩
    simp_arith [hm]
    refine Gives.bind (hd p m st1 hp1 (by omega) (log2_lt (b := 64) (by decide) (by simp; omega) (by decide))) ?_
    rintro _ st2 ⟨j, rfl, j0, j1, hp2⟩
    walk_at "ev"
    refine ⟨_, _, rfl, (1 + j).toNat, ?_, ⟨by omega, by omega⟩, hp2⟩
    rw [Int.toNat_of_nonneg (by omega)]
  · simp_arith [p6]
    refine Gives.bind (hd p 4 st hp (by decide) (by decide)) ?_
    rintro _ st1 ⟨k, rfl, k0, k4, hp1⟩
    obtain ⟨m, hm, m0, m1⟩ : ∃ m : Nat, dIx (.lst [.int 4, .int 12, .int 1000, .int 1000000]) (.int k) st1 = some (.int (m : Nat)) ∧ 0 < m ∧ m ≤ 1000000 := by
      have : k = 0 ∨ k = 1 ∨ k = 2 ∨ k = 3 := by omega
      rcases this with rfl | rfl | rfl | rfl
      · exact ⟨4, rfl, by decide, by decide⟩
      · exact ⟨12, rfl, by decide, by decide⟩
      · exact ⟨1000, rfl, by decide, by decide⟩
      · exact ⟨1000000, rfl, by decide, by decide⟩
    simp_arith [hm]
    refine Gives.bind (hd p m st1 hp1 (by omega) (log2_lt (b := 64) (by decide) (by simp; omega) (by decide))) ?_
    rintro _ st2 ⟨j, rfl, j0, j1, hp2⟩
    walk_at "ev"
    refine ⟨_, _, rfl, (1 + j).toNat, ?_, ⟨by omega, by omega⟩, hp2⟩
    rw [Int.toNat_of_nonneg (by omega)]
/-! ## _law_drawn -/
theorem ok_drawn {C C' : FEnv} (e : C' "_law_drawn" = body 5 b_law_drawn C) (hd : IsDraw C) (hs : IsSide0 C) : IsDrawn C' := fun p g st hp => by
  rw [e]
  unfold b_law_drawn
  walk_at "ev"
  refine Gives.bind (hd p 10 st hp (by decide) (by decide)) ?_
  rintro _ st1 ⟨k, rfl, k0, k10, hp1⟩
  walk_at "ev"
  refine Gives.bind (hs p g st1 hp1) ?_
  rintro _ st2 ⟨a, rfl, sa, hp2⟩
  walk_at "ev"
  refine Gives.bind (hs p g st2 hp2) ?_
  rintro _ st3 ⟨b, rfl, sb, hp3⟩
  by_cases c4 : k < 4
  · have t4 := decide_eq_true c4
    have hk : k = 0 ∨ k = 1 ∨ k = 2 ∨ k = 3 := by omega
    have x0 : ∀ st, dIx (.lst [.str "shrink", .str "grow"]) (.int 0) st = some (.str "shrink") := fun _ => rfl
    have x1 : ∀ st, dIx (.lst [.str "shrink", .str "grow"]) (.int 1) st = some (.str "grow") := fun _ => rfl
    have e0 : ((0 : Int) == 1) = false := rfl
    have e1 : ((1 : Int) == 1) = true := rfl
    rcases hk with rfl | rfl | rfl | rfl
    · have f1 : dFdiv (.int 0) (.int 2) = some (.int 0) := by kernel_rfl
      have f2 : dMod (.int 0) (.int 2) = some (.int 0) := by kernel_rfl
      simp_arith [t4, f1, f2, x0, x1, e0, e1]
      exact ⟨_, _, rfl, .sh a b false, rfl, ⟨sa, sb⟩, hp3⟩
    · have f1 : dFdiv (.int 1) (.int 2) = some (.int 0) := by kernel_rfl
      have f2 : dMod (.int 1) (.int 2) = some (.int 1) := by kernel_rfl
      simp_arith [t4, f1, f2, x0, x1, e0, e1]
      exact ⟨_, _, rfl, .sh a b true, rfl, ⟨sa, sb⟩, hp3⟩
    · have f1 : dFdiv (.int 2) (.int 2) = some (.int 1) := by kernel_rfl
      have f2 : dMod (.int 2) (.int 2) = some (.int 0) := by kernel_rfl
      simp_arith [t4, f1, f2, x0, x1, e0, e1]
      exact ⟨_, _, rfl, .gr a b false, rfl, ⟨sa, sb⟩, hp3⟩
    · have f1 : dFdiv (.int 3) (.int 2) = some (.int 1) := by kernel_rfl
      have f2 : dMod (.int 3) (.int 2) = some (.int 1) := by kernel_rfl
      simp_arith [t4, f1, f2, x0, x1, e0, e1]
      exact ⟨_, _, rfl, .gr a b true, rfl, ⟨sa, sb⟩, hp3⟩
  · have t4 := decide_eq_false c4
    by_cases c6 : k < 6
    · have t6 := decide_eq_true c6
      simp_arith [t4, t6]
      refine Gives.bind (hd p 3 st3 hp3 (by decide) (by decide)) ?_
      rintro _ st4 ⟨j, rfl, j0, j3, hp4⟩
      have hj : j = 0 ∨ j = 1 ∨ j = 2 := by omega
      rcases hj with rfl | rfl | rfl
      · have x : ∀ st, dIx (.lst [.str "left", .str "center", .str "right"]) (.int 0) st = some (.str "left") := fun _ => rfl
        simp_arith [x]
        exact ⟨_, _, rfl, .cw a b "left", rfl, ⟨sa, sb, .inl rfl⟩, hp4⟩
      · have x : ∀ st, dIx (.lst [.str "left", .str "center", .str "right"]) (.int 1) st = some (.str "center") := fun _ => rfl
        simp_arith [x]
        exact ⟨_, _, rfl, .cw a b "center", rfl, ⟨sa, sb, .inr (.inl rfl)⟩, hp4⟩
      · have x : ∀ st, dIx (.lst [.str "left", .str "center", .str "right"]) (.int 2) st = some (.str "right") := fun _ => rfl
        simp_arith [x]
        exact ⟨_, _, rfl, .cw a b "right", rfl, ⟨sa, sb, .inr (.inr rfl)⟩, hp4⟩
    · have t6 := decide_eq_false c6
      by_cases c8 : k < 8
      · have t8 := decide_eq_true c8
        simp_arith [t4, t6, t8]
        refine Gives.bind (hd p 3 st3 hp3 (by decide) (by decide)) ?_
        rintro _ st4 ⟨j, rfl, j0, j3, hp4⟩
        have hj : j = 0 ∨ j = 1 ∨ j = 2 := by omega
        rcases hj with rfl | rfl | rfl
        · have x : ∀ st, dIx (.lst [.str "top", .str "center", .str "bottom"]) (.int 0) st = some (.str "top") := fun _ => rfl
          simp_arith [x]
          exact ⟨_, _, rfl, .ch a b "top", rfl, ⟨sa, sb, .inl rfl⟩, hp4⟩
        · have x : ∀ st, dIx (.lst [.str "top", .str "center", .str "bottom"]) (.int 1) st = some (.str "center") := fun _ => rfl
          simp_arith [x]
          exact ⟨_, _, rfl, .ch a b "center", rfl, ⟨sa, sb, .inr (.inl rfl)⟩, hp4⟩
        · have x : ∀ st, dIx (.lst [.str "top", .str "center", .str "bottom"]) (.int 2) st = some (.str "bottom") := fun _ => rfl
          simp_arith [x]
          exact ⟨_, _, rfl, .ch a b "bottom", rfl, ⟨sa, sb, .inr (.inr rfl)⟩, hp4⟩
      · have t8 := decide_eq_false c8
        by_cases c9 : k = 8
        · have t9 : (k == 8) = true := beq_iff_eq.mpr c9
          simp_arith [t4, t6, t8, t9]
          refine Gives.bind (hd p 3 st3 hp3 (by decide) (by decide)) ?_
          rintro _ st4 ⟨j, rfl, j0, j3, hp4⟩
          obtain ⟨j, rfl⟩ := Int.eq_ofNat_of_zero_le j0
          walk_at "ev"
          refine ⟨_, _, rfl, .tn (1 + j), by
            show D.tup [.str "turn", .int (1 + (j : Int))] = D.tup [.str "turn", .int ((1 + j : Nat) : Int)]
            rw [Int.natCast_add]
            rfl, ?_, hp4⟩
          show 1 + j = 1 ∨ 1 + j = 2 ∨ 1 + j = 3
          omega
        · have t9 : (k == 8) = false := beq_eq_false_iff_ne.mpr c9
          simp_arith [t4, t6, t8, t9]
          refine Gives.bind (hd p 2 st3 hp3 (by decide) (by decide)) ?_
          rintro _ st4 ⟨j, rfl, j0, j3, hp4⟩
          have hj : j = 0 ∨ j = 1 := by omega
          rcases hj with rfl | rfl
          · have x : ∀ st, dIx (.lst [.tup [.str "landscape"], .tup [.str "portrait"]]) (.int 0) st = some (.tup [.str "landscape"]) := fun _ => rfl
            simp_arith [x]
            exact ⟨_, _, rfl, .ls, rfl, trivial, hp4⟩
          · have x : ∀ st, dIx (.lst [.tup [.str "landscape"], .tup [.str "portrait"]]) (.int 1) st = some (.tup [.str "portrait"]) := fun _ => rfl
            simp_arith [x]
            exact ⟨_, _, rfl, .po, rfl, trivial, hp4⟩
/-! ## _law_made -/
theorem ok_madeT {C C' : FEnv} (e : C' "_law_made" = body 1 b_law_made C) (ht : IsTurnI C) (n : Int) (h1 : 1 ≤ n) (h3 : n ≤ 3) (st : Store) : C' "_law_made" [.tup [.str "turn", .int n]] st = .ok (tn n) (st ++ [.dead]) := by
  rw [e]
  unfold b_law_made
  have q1 : (("turn" : Str) == "shrink") = false := by decide +kernel
  have q2 : (("turn" : Str) == "grow") = false := by decide +kernel
  have q3 : (("turn" : Str) == "width") = false := by decide +kernel
  have q4 : (("turn" : Str) == "height") = false := by decide +kernel
  have q5 : (("turn" : Str) == "turn") = true := by decide +kernel
  have h := ht n st h1 h3
  simp_arith [q1, q2, q3, q4, q5, h]
  rfl
theorem ok_madeL {C C' : FEnv} (e : C' "_law_made" = body 1 b_law_made C) (st : Store) : C' "_law_made" [.tup [.str "landscape"]] st = .ok (st0 "Landscape") (st ++ [.dead]) := by
  rw [e]
  unfold b_law_made
  have q1 : (("landscape" : Str) == "shrink") = false := by decide +kernel
  have q2 : (("landscape" : Str) == "grow") = false := by decide +kernel
  have q3 : (("landscape" : Str) == "width") = false := by decide +kernel
  have q4 : (("landscape" : Str) == "height") = false := by decide +kernel
  have q5 : (("landscape" : Str) == "turn") = false := by decide +kernel
  have q6 : (("landscape" : Str) == "landscape") = true := by decide +kernel
  simp_arith [q1, q2, q3, q4, q5, q6]
  rfl
theorem ok_madeP {C C' : FEnv} (e : C' "_law_made" = body 1 b_law_made C) (st : Store) : C' "_law_made" [.tup [.str "portrait"]] st = .ok (st0 "Portrait") (st ++ [.dead]) := by
  rw [e]
  unfold b_law_made
  have q1 : (("portrait" : Str) == "shrink") = false := by decide +kernel
  have q2 : (("portrait" : Str) == "grow") = false := by decide +kernel
  have q3 : (("portrait" : Str) == "width") = false := by decide +kernel
  have q4 : (("portrait" : Str) == "height") = false := by decide +kernel
  have q5 : (("portrait" : Str) == "turn") = false := by decide +kernel
  have q6 : (("portrait" : Str) == "landscape") = false := by decide +kernel
  simp_arith [q1, q2, q3, q4, q5, q6]
  rfl
theorem ok_madeS {C C' : FEnv} (e : C' "_law_made" = body 1 b_law_made C) (ht : IsScalI "Shrink.__init__" "Shrink" C) (w h : Nat) (cv : Bool) (sw : Sd w) (sh : Sd h) (st : Store) : C' "_law_made" [.tup [.str "shrink", .int (w : Nat), .int (h : Nat), .bl cv]] st = .ok (bx "Shrink" "cover" w h (.bl cv)) (st ++ [.dead]) := by
  rw [e]
  unfold b_law_made
  have q0 : (("shrink" : Str) == "shrink") = true := by decide +kernel
  have i2 : ∀ st, dIx (.tup [.str "shrink", .int (w : Nat), .int (h : Nat), .bl cv]) (.int 2) st = some (.int (h : Nat)) := fun _ => rfl
  have i3 : ∀ st, dIx (.tup [.str "shrink", .int (w : Nat), .int (h : Nat), .bl cv]) (.int 3) st = some (.bl cv) := fun _ => rfl
  have f := ht w h cv st sw sh
  simp_arith [q0, i2, i3, f]
  rfl
theorem ok_madeG {C C' : FEnv} (e : C' "_law_made" = body 1 b_law_made C) (ht : IsScalI "Grow.__init__" "Grow" C) (w h : Nat) (cv : Bool) (sw : Sd w) (sh : Sd h) (st : Store) : C' "_law_made" [.tup [.str "grow", .int (w : Nat), .int (h : Nat), .bl cv]] st = .ok (bx "Grow" "cover" w h (.bl cv)) (st ++ [.dead]) := by
  rw [e]
  unfold b_law_made
  have q0 : (("grow" : Str) == "shrink") = false := by decide +kernel
  have q1 : (("grow" : Str) == "grow") = true := by decide +kernel
  have i2 : ∀ st, dIx (.tup [.str "grow", .int (w : Nat), .int (h : Nat), .bl cv]) (.int 2) st = some (.int (h : Nat)) := fun _ => rfl
  have i3 : ∀ st, dIx (.tup [.str "grow", .int (w : Nat), .int (h : Nat), .bl cv]) (.int 3) st = some (.bl cv) := fun _ => rfl
  have f := ht w h cv st sw sh
  simp_arith [q0, q1, i2, i3, f]
  rfl
theorem ok_madeCW {C C' : FEnv} (e : C' "_law_made" = body 1 b_law_made C) (ht : IsCropI "CropWidth.__init__" "CropWidth" C) (w h : Nat) (k : Str) (sw : Sd w) (sh : Sd h) (ko : KeepOk "CropWidth" k) (st : Store) : C' "_law_made" [.tup [.str "width", .int (w : Nat), .int (h : Nat), .str k]] st = .ok (bx "CropWidth" "keep" w h (.str k)) (st ++ [.dead]) := by
  rw [e]
  unfold b_law_made
  have q0 : (("width" : Str) == "shrink") = false := by decide +kernel
  have q1 : (("width" : Str) == "grow") = false := by decide +kernel
  have q2 : (("width" : Str) == "width") = true := by decide +kernel
  have i2 : ∀ st, dIx (.tup [.str "width", .int (w : Nat), .int (h : Nat), .str k]) (.int 2) st = some (.int (h : Nat)) := fun _ => rfl
  have i3 : ∀ st, dIx (.tup [.str "width", .int (w : Nat), .int (h : Nat), .str k]) (.int 3) st = some (.str k) := fun _ => rfl
  have f := ht w h k st sw sh ko
  simp_arith [q0, q1, q2, i2, i3, f]
  rfl
theorem ok_madeCH {C C' : FEnv} (e : C' "_law_made" = body 1 b_law_made C) (ht : IsCropI "CropHeight.__init__" "CropHeight" C) (w h : Nat) (k : Str) (sw : Sd w) (sh : Sd h) (ko : KeepOk "CropHeight" k) (st : Store) : C' "_law_made" [.tup [.str "height", .int (w : Nat), .int (h : Nat), .str k]] st = .ok (bx "CropHeight" "keep" w h (.str k)) (st ++ [.dead]) := by
  rw [e]
  unfold b_law_made
  have q0 : (("height" : Str) == "shrink") = false := by decide +kernel
  have q1 : (("height" : Str) == "grow") = false := by decide +kernel
  have q2 : (("height" : Str) == "width") = false := by decide +kernel
  have q3 : (("height" : Str) == "height") = true := by decide +kernel
  have i2 : ∀ st, dIx (.tup [.str "height", .int (w : Nat), .int (h : Nat), .str k]) (.int 2) st = some (.int (h : Nat)) := fun _ => rfl
  have i3 : ∀ st, dIx (.tup [.str "height", .int (w : Nat), .int (h : Nat), .str k]) (.int 3) st = some (.str k) := fun _ => rfl
  have f := ht w h k st sw sh ko
  simp_arith [q0, q1, q2, q3, i2, i3, f]
  rfl
/-! ## all steps -/
theorem ok_spmade {C C' : FEnv} (e : C' "_law_made" = body 1 b_law_made C) (iS : IsScalI "Shrink.__init__" "Shrink" C) (iG : IsScalI "Grow.__init__" "Grow" C) (iW : IsCropI "CropWidth.__init__" "CropWidth" C) (iH : IsCropI "CropHeight.__init__" "CropHeight" C) (iT : IsTurnI C) : IsSpMade C' := fun s st hs => by
  cases s with
  | sh w h cv => exact ok_madeS e iS w h cv hs.1 hs.2 st
  | gr w h cv => exact ok_madeG e iG w h cv hs.1 hs.2 st
  | cw w h k => exact ok_madeCW e iW w h k hs.1 hs.2.1 (.inl ⟨rfl, hs.2.2⟩) st
  | ch w h k => exact ok_madeCH e iH w h k hs.1 hs.2.1 (.inr ⟨rfl, hs.2.2⟩) st
  | tn n =>
    have hs : n = 1 ∨ n = 2 ∨ n = 3 := hs
    exact ok_madeT e iT (n : Nat) (by omega) (by omega) st
  | ls => exact ok_madeL e st
  | po => exact ok_madeP e st
end DS
namespace DS
open PySem L2 PyProof.Rows
local macro_rules | `(tactic| walk_at "ev") => `(tactic| first | simp -dsimp -implicitDefEqProofs only [↓p_body, ↓p_sNil, ↓p_sSeq, ↓p_sAsg, ↓p_sPar, ↓p_sExp, ↓p_sRet, ↓p_sIf, ↓p_sFor, ↓p_for0, ↓p_forS, ↓p_sBrk, ↓p_sCnt, ↓p_sBad, ↓p_sOwn, ↓p_sApp, ↓p_sFrz, ↓p_eVar, ↓p_eC, ↓p_eUn, ↓p_eBin, ↓p_aNil, ↓p_aCons, ↓p_eTup, ↓p_eLst, ↓p_eCell, ↓p_eCallK, ↓p_eBlt, ↓p_tE, ↓p_tNt, ↓p_tAn, ↓p_tOr, ↓p_tYs, ↓p_eIf, ↓p_eAn, ↓p_eOr, ↓p_eNt, ↓p_eIxx, ↓p_oNone, ↓p_oSome, ↓p_eSll, ↓p_eChn, ↓p_eIter, ↓p_eRng, ↓p_gTg, ↓p_gTp1, ↓p_gTp2, ↓p_gTp3, ↓p_gTp4, ↓p_gTp5, ↓p_gTp6, ↓p_gTp7, ↓p_gMany0, ↓p_gManyS, ↓p_gCell, ↓p_eAttr, ↓p_eMeth, ↓p_eMake, ↓p_gFld, ↓p_tIf, ↓p_eJs, ↓p_js0, ↓p_jsS, ↓p_eBinC, ↓p_eBltC, ↓p_eMake0, ↓p_oMul, ↓p_oEq, ↓p_oIn, ↓p_oText, ↓p_eSlO, ↓p_sOwnA, ↓p_eBinS, ↓p_oAdd, ↓p_oIx, ↓p_aStar, ↓p_eMakeS, ↓p_eEnum, ↓p_oLen, ↓p_eZip, ↓p_eMakeVS, ↓p_eTupS, ↓p_eLstS, ↓p_oBool, ↓p_eLz, ↓bnd_ok, bnd_ok, ↓bnd_exc, bnd_exc, noX_ok, ↓bind_ok, ↓to_bnd, lift_some, bnd_bnd, ↓reduceIte, bindT, bindTs, dIter, dEnum, dSeq, dTru, pickD, dEq_int, dNe_int, dEq_bl, dNe_bl, dEq_str, dNe_str, dLt, dLe, dGt, dGe, dAdd, dSub, dNeg, dIs, dIsNot, isNon, dIsO_non, dIsO_bl, dIsO_int, dIsO_str, dIsO_tup, dIsO_lst, dIsO_emp, dIsO_scr, dIsO_fr, dIsi, tyName, kit_int_int, kit_int_bool, kit_tuple_tuple, dInt, fr_ix0, fr_ix1, tup_ix0, tup_ix1, fr_len, fr_tup, dEq_fr, dNe_fr, frz_end, kk0, kk1, kk2, kk3, Option.bind_some, Option.map_some,
  List.map_cons, List.map_nil, List.getD_cons_zero, List.getD_cons_succ, List.getElem?_cons_zero, List.getElem?_cons_succ, List.getElem?_nil, List.set_cons_zero, List.set_cons_succ, List.length_cons, List.length_nil, List.replicate, List.cons_append, List.nil_append, Nat.reduceAdd, Nat.reduceSub, if_true, if_false, decide_true, decide_false, not_true_eq_false, not_false_eq_true, Bool.not_true, Bool.not_false, Bool.true_eq_false, Bool.false_eq_true, reduceCtorEq] | skip)
local macro_rules | `(tactic| simp_arith [$xs,*]) => `(tactic| simp -dsimp -implicitDefEqProofs only [$xs,*, ↓p_body, ↓p_sNil, ↓p_sSeq, ↓p_sAsg, ↓p_sPar, ↓p_sExp, ↓p_sRet, ↓p_sIf, ↓p_sFor, ↓p_for0, ↓p_forS, ↓p_sBrk, ↓p_sCnt, ↓p_sBad, ↓p_sOwn, ↓p_sApp, ↓p_sFrz, ↓p_eVar, ↓p_eC, ↓p_eUn, ↓p_eBin, ↓p_aNil, ↓p_aCons, ↓p_eTup, ↓p_eLst, ↓p_eCell, ↓p_eCallK, ↓p_eBlt, ↓p_tE, ↓p_tNt, ↓p_tAn, ↓p_tOr, ↓p_tYs, ↓p_eIf, ↓p_eAn, ↓p_eOr, ↓p_eNt, ↓p_eIxx, ↓p_oNone, ↓p_oSome, ↓p_eSll, ↓p_eChn, ↓p_eIter, ↓p_eRng, ↓p_gTg, ↓p_gTp1, ↓p_gTp2, ↓p_gTp3, ↓p_gTp4, ↓p_gTp5, ↓p_gTp6, ↓p_gTp7, ↓p_gMany0, ↓p_gManyS, ↓p_gCell, ↓p_eAttr, ↓p_eMeth, ↓p_eMake, ↓p_gFld, ↓p_tIf, ↓p_eJs, ↓p_js0, ↓p_jsS, ↓p_eBinC, ↓p_eBltC, ↓p_eMake0, ↓p_oMul, ↓p_oEq, ↓p_oIn, ↓p_oText, ↓p_eSlO, ↓p_sOwnA, ↓p_eBinS, ↓p_oAdd, ↓p_oIx, ↓p_aStar, ↓p_eMakeS, ↓p_eEnum, ↓p_oLen, ↓p_eZip, ↓p_eMakeVS, ↓p_eTupS, ↓p_eLstS, ↓p_oBool, ↓p_eLz, ↓bnd_ok, bnd_ok, ↓bnd_exc, bnd_exc, noX_ok, ↓bind_ok, ↓to_bnd, lift_some, bnd_bnd, ↓reduceIte, bindT, bindTs, dIter, dEnum, dSeq, dTru, pickD, dEq_int, dNe_int, dEq_bl, dNe_bl, dEq_str, dNe_str, dLt, dLe, dGt, dGe, dAdd, dSub, dNeg, dIs, dIsNot, isNon, dIsO_non, dIsO_bl, dIsO_int, dIsO_str, dIsO_tup, dIsO_lst, dIsO_emp, dIsO_scr, dIsO_fr, dIsi, tyName, kit_int_int, kit_int_bool, kit_tuple_tuple, dInt, fr_ix0, fr_ix1, tup_ix0, tup_ix1, fr_len, fr_tup, dEq_fr, dNe_fr, frz_end, kk0, kk1, kk2, kk3, Option.bind_some, Option.map_some,
  List.map_cons, List.map_nil, List.getD_cons_zero, List.getD_cons_succ, List.getElem?_cons_zero, List.getElem?_cons_succ, List.getElem?_nil, List.set_cons_zero, List.set_cons_succ, List.length_cons, List.length_nil, List.replicate, List.cons_append, List.nil_append, Nat.reduceAdd, Nat.reduceSub, if_true, if_false, decide_true, decide_false, not_true_eq_false, not_false_eq_true, Bool.not_true, Bool.not_false, Bool.true_eq_false, Bool.false_eq_true, reduceCtorEq])
local macro_rules | `(tactic| walk_at "evx") => `(tactic| first | simp -dsimp -implicitDefEqProofs only [*, ↓p_body, ↓p_sNil, ↓p_sSeq, ↓p_sAsg, ↓p_sPar, ↓p_sExp, ↓p_sRet, ↓p_sIf, ↓p_sFor, ↓p_for0, ↓p_forS, ↓p_sBrk, ↓p_sCnt, ↓p_sBad, ↓p_sOwn, ↓p_sApp, ↓p_sFrz, ↓p_eVar, ↓p_eC, ↓p_eUn, ↓p_eBin, ↓p_aNil, ↓p_aCons, ↓p_eTup, ↓p_eLst, ↓p_eCell, ↓p_eCallK, ↓p_eBlt, ↓p_tE, ↓p_tNt, ↓p_tAn, ↓p_tOr, ↓p_tYs, ↓p_eIf, ↓p_eAn, ↓p_eOr, ↓p_eNt, ↓p_eIxx, ↓p_oNone, ↓p_oSome, ↓p_eSll, ↓p_eChn, ↓p_eIter, ↓p_eRng, ↓p_gTg, ↓p_gTp1, ↓p_gTp2, ↓p_gTp3, ↓p_gTp4, ↓p_gTp5, ↓p_gTp6, ↓p_gTp7, ↓p_gMany0, ↓p_gManyS, ↓p_gCell, ↓p_eAttr, ↓p_eMeth, ↓p_eMake, ↓p_gFld, ↓p_tIf, ↓p_eJs, ↓p_js0, ↓p_jsS, ↓p_eBinC, ↓p_eBltC, ↓p_eMake0, ↓p_oMul, ↓p_oEq, ↓p_oIn, ↓p_oText, ↓p_eSlO, ↓p_sOwnA, ↓p_eBinS, ↓p_oAdd, ↓p_oIx, ↓p_aStar, ↓p_eMakeS, ↓p_eEnum, ↓p_oLen, ↓p_eZip, ↓p_eMakeVS, ↓p_eTupS, ↓p_eLstS, ↓p_oBool, ↓p_eLz, ↓bnd_ok, bnd_ok, ↓bnd_exc, bnd_exc, noX_ok, ↓bind_ok, ↓to_bnd, lift_some, bnd_bnd, ↓reduceIte, bindT, bindTs, dIter, dEnum, dSeq, dTru, pickD, dEq_int, dNe_int, dEq_bl, dNe_bl, dEq_str, dNe_str, dLt, dLe, dGt, dGe, dAdd, dSub, dNeg, dIs, dIsNot, isNon, dIsO_non, dIsO_bl, dIsO_int, dIsO_str, dIsO_tup, dIsO_lst, dIsO_emp, dIsO_scr, dIsO_fr, dIsi, tyName, kit_int_int, kit_int_bool, kit_tuple_tuple, dInt, fr_ix0, fr_ix1, tup_ix0, tup_ix1, fr_len, fr_tup, dEq_fr, dNe_fr, frz_end, kk0, kk1, kk2, kk3, Option.bind_some, Option.map_some,
  List.map_cons, List.map_nil, List.getD_cons_zero, List.getD_cons_succ, List.getElem?_cons_zero, List.getElem?_cons_succ, List.getElem?_nil, List.set_cons_zero, List.set_cons_succ, List.length_cons, List.length_nil, List.replicate, List.cons_append, List.nil_append, Nat.reduceAdd, Nat.reduceSub, if_true, if_false, decide_true, decide_false, not_true_eq_false, not_false_eq_true, Bool.not_true, Bool.not_false, Bool.true_eq_false, Bool.false_eq_true, reduceCtorEq] | skip)
/-! ## steps: their classes, their attributes -/
theorem is_sh_Shrink (w h : Nat) (cv : Bool) : dIsO ctN [bx "Shrink" "cover" w h (.bl cv), .cls "Shrink"] = some (.bl true) := by kernel_rfl
theorem is_sh_Grow (w h : Nat) (cv : Bool) : dIsO ctN [bx "Shrink" "cover" w h (.bl cv), .cls "Grow"] = some (.bl false) := by kernel_rfl
theorem is_sh_CropWidth (w h : Nat) (cv : Bool) : dIsO ctN [bx "Shrink" "cover" w h (.bl cv), .cls "CropWidth"] = some (.bl false) := by kernel_rfl
theorem is_sh_CropHeight (w h : Nat) (cv : Bool) : dIsO ctN [bx "Shrink" "cover" w h (.bl cv), .cls "CropHeight"] = some (.bl false) := by kernel_rfl
theorem is_sh_Turn (w h : Nat) (cv : Bool) : dIsO ctN [bx "Shrink" "cover" w h (.bl cv), .cls "Turn"] = some (.bl false) := by kernel_rfl
theorem is_sh_Landscape (w h : Nat) (cv : Bool) : dIsO ctN [bx "Shrink" "cover" w h (.bl cv), .cls "Landscape"] = some (.bl false) := by kernel_rfl
theorem is_sh_Portrait (w h : Nat) (cv : Bool) : dIsO ctN [bx "Shrink" "cover" w h (.bl cv), .cls "Portrait"] = some (.bl false) := by kernel_rfl
theorem is_sh_Scaling (w h : Nat) (cv : Bool) : dIsO ctN [bx "Shrink" "cover" w h (.bl cv), .cls "Scaling"] = some (.bl true) := by kernel_rfl
theorem is_sh_Crop (w h : Nat) (cv : Bool) : dIsO ctN [bx "Shrink" "cover" w h (.bl cv), .cls "Crop"] = some (.bl false) := by kernel_rfl
theorem is_sh_Step (w h : Nat) (cv : Bool) : dIsO ctN [bx "Shrink" "cover" w h (.bl cv), .cls "Step"] = some (.bl true) := by kernel_rfl
theorem at_sh_WORD (w h : Nat) (cv : Bool) : ∀ (C : FEnv) st, attrD C "WORD" (attrTab ctA "WORD") (bx "Shrink" "cover" w h (.bl cv)) st = .ok (.str "shrink") st := fun _ _ => by kernel_rfl
theorem at_sh_width (w h : Nat) (cv : Bool) : ∀ (C : FEnv) st, attrD C "width" (attrTab ctA "width") (bx "Shrink" "cover" w h (.bl cv)) st = .ok (.int (w : Nat)) st := fun _ _ => by kernel_rfl
theorem at_sh_height (w h : Nat) (cv : Bool) : ∀ (C : FEnv) st, attrD C "height" (attrTab ctA "height") (bx "Shrink" "cover" w h (.bl cv)) st = .ok (.int (h : Nat)) st := fun _ _ => by kernel_rfl
theorem at_sh_cover (w h : Nat) (cv : Bool) : ∀ (C : FEnv) st, attrD C "cover" (attrTab ctA "cover") (bx "Shrink" "cover" w h (.bl cv)) st = .ok (.bl cv) st := fun _ _ => by kernel_rfl
theorem is_gr_Shrink (w h : Nat) (cv : Bool) : dIsO ctN [bx "Grow" "cover" w h (.bl cv), .cls "Shrink"] = some (.bl false) := by kernel_rfl
theorem is_gr_Grow (w h : Nat) (cv : Bool) : dIsO ctN [bx "Grow" "cover" w h (.bl cv), .cls "Grow"] = some (.bl true) := by kernel_rfl
theorem is_gr_CropWidth (w h : Nat) (cv : Bool) : dIsO ctN [bx "Grow" "cover" w h (.bl cv), .cls "CropWidth"] = some (.bl false) := by kernel_rfl
theorem is_gr_CropHeight (w h : Nat) (cv : Bool) : dIsO ctN [bx "Grow" "cover" w h (.bl cv), .cls "CropHeight"] = some (.bl false) := by kernel_rfl
theorem is_gr_Turn (w h : Nat) (cv : Bool) : dIsO ctN [bx "Grow" "cover" w h (.bl cv), .cls "Turn"] = some (.bl false) := by kernel_rfl
theorem is_gr_Landscape (w h : Nat) (cv : Bool) : dIsO ctN [bx "Grow" "cover" w h (.bl cv), .cls "Landscape"] = some (.bl false) := by kernel_rfl
theorem is_gr_Portrait (w h : Nat) (cv : Bool) : dIsO ctN [bx "Grow" "cover" w h (.bl cv), .cls "Portrait"] = some (.bl false) := by kernel_rfl
theorem is_gr_Scaling (w h : Nat) (cv : Bool) : dIsO ctN [bx "Grow" "cover" w h (.bl cv), .cls "Scaling"] = some (.bl true) := by kernel_rfl
theorem is_gr_Crop (w h : Nat) (cv : Bool) : dIsO ctN [bx "Grow" "cover" w h (.bl cv), .cls "Crop"] = some (.bl false) := by kernel_rfl
theorem is_gr_Step (w h : Nat) (cv : Bool) : dIsO ctN [bx "Grow" "cover" w h (.bl cv), .cls "Step"] = some (.bl true) := by kernel_rfl
theorem at_gr_WORD (w h : Nat) (cv : Bool) : ∀ (C : FEnv) st, attrD C "WORD" (attrTab ctA "WORD") (bx "Grow" "cover" w h (.bl cv)) st = .ok (.str "grow") st := fun _ _ => by kernel_rfl
theorem at_gr_width (w h : Nat) (cv : Bool) : ∀ (C : FEnv) st, attrD C "width" (attrTab ctA "width") (bx "Grow" "cover" w h (.bl cv)) st = .ok (.int (w : Nat)) st := fun _ _ => by kernel_rfl
theorem at_gr_height (w h : Nat) (cv : Bool) : ∀ (C : FEnv) st, attrD C "height" (attrTab ctA "height") (bx "Grow" "cover" w h (.bl cv)) st = .ok (.int (h : Nat)) st := fun _ _ => by kernel_rfl
theorem at_gr_cover (w h : Nat) (cv : Bool) : ∀ (C : FEnv) st, attrD C "cover" (attrTab ctA "cover") (bx "Grow" "cover" w h (.bl cv)) st = .ok (.bl cv) st := fun _ _ => by kernel_rfl
theorem is_cw_Shrink (w h : Nat) (k : Str) : dIsO ctN [bx "CropWidth" "keep" w h (.str k), .cls "Shrink"] = some (.bl false) := by kernel_rfl
theorem is_cw_Grow (w h : Nat) (k : Str) : dIsO ctN [bx "CropWidth" "keep" w h (.str k), .cls "Grow"] = some (.bl false) := by kernel_rfl
theorem is_cw_CropWidth (w h : Nat) (k : Str) : dIsO ctN [bx "CropWidth" "keep" w h (.str k), .cls "CropWidth"] = some (.bl true) := by kernel_rfl
theorem is_cw_CropHeight (w h : Nat) (k : Str) : dIsO ctN [bx "CropWidth" "keep" w h (.str k), .cls "CropHeight"] = some (.bl false) := by kernel_rfl
theorem is_cw_Turn (w h : Nat) (k : Str) : dIsO ctN [bx "CropWidth" "keep" w h (.str k), .cls "Turn"] = some (.bl false) := by kernel_rfl
theorem is_cw_Landscape (w h : Nat) (k : Str) : dIsO ctN [bx "CropWidth" "keep" w h (.str k), .cls "Landscape"] = some (.bl false) := by kernel_rfl
theorem is_cw_Portrait (w h : Nat) (k : Str) : dIsO ctN [bx "CropWidth" "keep" w h (.str k), .cls "Portrait"] = some (.bl false) := by kernel_rfl
theorem is_cw_Scaling (w h : Nat) (k : Str) : dIsO ctN [bx "CropWidth" "keep" w h (.str k), .cls "Scaling"] = some (.bl false) := by kernel_rfl
theorem is_cw_Crop (w h : Nat) (k : Str) : dIsO ctN [bx "CropWidth" "keep" w h (.str k), .cls "Crop"] = some (.bl true) := by kernel_rfl
theorem is_cw_Step (w h : Nat) (k : Str) : dIsO ctN [bx "CropWidth" "keep" w h (.str k), .cls "Step"] = some (.bl true) := by kernel_rfl
theorem at_cw_WORD (w h : Nat) (k : Str) : ∀ (C : FEnv) st, attrD C "WORD" (attrTab ctA "WORD") (bx "CropWidth" "keep" w h (.str k)) st = .ok (.str "width") st := fun _ _ => by kernel_rfl
theorem at_cw_width (w h : Nat) (k : Str) : ∀ (C : FEnv) st, attrD C "width" (attrTab ctA "width") (bx "CropWidth" "keep" w h (.str k)) st = .ok (.int (w : Nat)) st := fun _ _ => by kernel_rfl
theorem at_cw_height (w h : Nat) (k : Str) : ∀ (C : FEnv) st, attrD C "height" (attrTab ctA "height") (bx "CropWidth" "keep" w h (.str k)) st = .ok (.int (h : Nat)) st := fun _ _ => by kernel_rfl
theorem at_cw_keep (w h : Nat) (k : Str) : ∀ (C : FEnv) st, attrD C "keep" (attrTab ctA "keep") (bx "CropWidth" "keep" w h (.str k)) st = .ok (.str k) st := fun _ _ => by kernel_rfl
theorem is_ch_Shrink (w h : Nat) (k : Str) : dIsO ctN [bx "CropHeight" "keep" w h (.str k), .cls "Shrink"] = some (.bl false) := by kernel_rfl
theorem is_ch_Grow (w h : Nat) (k : Str) : dIsO ctN [bx "CropHeight" "keep" w h (.str k), .cls "Grow"] = some (.bl false) := by kernel_rfl
theorem is_ch_CropWidth (w h : Nat) (k : Str) : dIsO ctN [bx "CropHeight" "keep" w h (.str k), .cls "CropWidth"] = some (.bl false) := by kernel_rfl
theorem is_ch_CropHeight (w h : Nat) (k : Str) : dIsO ctN [bx "CropHeight" "keep" w h (.str k), .cls "CropHeight"] = some (.bl true) := by kernel_rfl
theorem is_ch_Turn (w h : Nat) (k : Str) : dIsO ctN [bx "CropHeight" "keep" w h (.str k), .cls "Turn"] = some (.bl false) := by kernel_rfl
theorem is_ch_Landscape (w h : Nat) (k : Str) : dIsO ctN [bx "CropHeight" "keep" w h (.str k), .cls "Landscape"] = some (.bl false) := by kernel_rfl
theorem is_ch_Portrait (w h : Nat) (k : Str) : dIsO ctN [bx "CropHeight" "keep" w h (.str k), .cls "Portrait"] = some (.bl false) := by kernel_rfl
theorem is_ch_Scaling (w h : Nat) (k : Str) : dIsO ctN [bx "CropHeight" "keep" w h (.str k), .cls "Scaling"] = some (.bl false) := by kernel_rfl
theorem is_ch_Crop (w h : Nat) (k : Str) : dIsO ctN [bx "CropHeight" "keep" w h (.str k), .cls "Crop"] = some (.bl true) := by kernel_rfl
theorem is_ch_Step (w h : Nat) (k : Str) : dIsO ctN [bx "CropHeight" "keep" w h (.str k), .cls "Step"] = some (.bl true) := by kernel_rfl
theorem at_ch_WORD (w h : Nat) (k : Str) : ∀ (C : FEnv) st, attrD C "WORD" (attrTab ctA "WORD") (bx "CropHeight" "keep" w h (.str k)) st = .ok (.str "height") st := fun _ _ => by kernel_rfl
theorem at_ch_width (w h : Nat) (k : Str) : ∀ (C : FEnv) st, attrD C "width" (attrTab ctA "width") (bx "CropHeight" "keep" w h (.str k)) st = .ok (.int (w : Nat)) st := fun _ _ => by kernel_rfl
theorem at_ch_height (w h : Nat) (k : Str) : ∀ (C : FEnv) st, attrD C "height" (attrTab ctA "height") (bx "CropHeight" "keep" w h (.str k)) st = .ok (.int (h : Nat)) st := fun _ _ => by kernel_rfl
theorem at_ch_keep (w h : Nat) (k : Str) : ∀ (C : FEnv) st, attrD C "keep" (attrTab ctA "keep") (bx "CropHeight" "keep" w h (.str k)) st = .ok (.str k) st := fun _ _ => by kernel_rfl
theorem is_tn_Shrink (n : Nat) : dIsO ctN [DS.tn (n : Nat), .cls "Shrink"] = some (.bl false) := by kernel_rfl
theorem is_tn_Grow (n : Nat) : dIsO ctN [DS.tn (n : Nat), .cls "Grow"] = some (.bl false) := by kernel_rfl
theorem is_tn_CropWidth (n : Nat) : dIsO ctN [DS.tn (n : Nat), .cls "CropWidth"] = some (.bl false) := by kernel_rfl
theorem is_tn_CropHeight (n : Nat) : dIsO ctN [DS.tn (n : Nat), .cls "CropHeight"] = some (.bl false) := by kernel_rfl
theorem is_tn_Turn (n : Nat) : dIsO ctN [DS.tn (n : Nat), .cls "Turn"] = some (.bl true) := by kernel_rfl
theorem is_tn_Landscape (n : Nat) : dIsO ctN [DS.tn (n : Nat), .cls "Landscape"] = some (.bl false) := by kernel_rfl
theorem is_tn_Portrait (n : Nat) : dIsO ctN [DS.tn (n : Nat), .cls "Portrait"] = some (.bl false) := by kernel_rfl
theorem is_tn_Scaling (n : Nat) : dIsO ctN [DS.tn (n : Nat), .cls "Scaling"] = some (.bl false) := by kernel_rfl
theorem is_tn_Crop (n : Nat) : dIsO ctN [DS.tn (n : Nat), .cls "Crop"] = some (.bl false) := by kernel_rfl
theorem is_tn_Step (n : Nat) : dIsO ctN [DS.tn (n : Nat), .cls "Step"] = some (.bl true) := by kernel_rfl
theorem at_tn_WORD (n : Nat) : ∀ (C : FEnv) st, attrD C "WORD" (attrTab ctA "WORD") (DS.tn (n : Nat)) st = .ok (.str "turn") st := fun _ _ => by kernel_rfl
theorem at_tn_times (n : Nat) : ∀ (C : FEnv) st, attrD C "times" (attrTab ctA "times") (DS.tn (n : Nat)) st = .ok (.int (n : Nat)) st := fun _ _ => by kernel_rfl
theorem is_ls_Shrink  : dIsO ctN [st0 "Landscape", .cls "Shrink"] = some (.bl false) := by kernel_rfl
theorem is_ls_Grow  : dIsO ctN [st0 "Landscape", .cls "Grow"] = some (.bl false) := by kernel_rfl
theorem is_ls_CropWidth  : dIsO ctN [st0 "Landscape", .cls "CropWidth"] = some (.bl false) := by kernel_rfl
theorem is_ls_CropHeight  : dIsO ctN [st0 "Landscape", .cls "CropHeight"] = some (.bl false) := by kernel_rfl
theorem is_ls_Turn  : dIsO ctN [st0 "Landscape", .cls "Turn"] = some (.bl false) := by kernel_rfl
theorem is_ls_Landscape  : dIsO ctN [st0 "Landscape", .cls "Landscape"] = some (.bl true) := by kernel_rfl
theorem is_ls_Portrait  : dIsO ctN [st0 "Landscape", .cls "Portrait"] = some (.bl false) := by kernel_rfl
theorem is_ls_Scaling  : dIsO ctN [st0 "Landscape", .cls "Scaling"] = some (.bl false) := by kernel_rfl
theorem is_ls_Crop  : dIsO ctN [st0 "Landscape", .cls "Crop"] = some (.bl false) := by kernel_rfl
theorem is_ls_Step  : dIsO ctN [st0 "Landscape", .cls "Step"] = some (.bl true) := by kernel_rfl
theorem at_ls_WORD  : ∀ (C : FEnv) st, attrD C "WORD" (attrTab ctA "WORD") (st0 "Landscape") st = .ok (.str "landscape") st := fun _ _ => by kernel_rfl
theorem is_po_Shrink  : dIsO ctN [st0 "Portrait", .cls "Shrink"] = some (.bl false) := by kernel_rfl
theorem is_po_Grow  : dIsO ctN [st0 "Portrait", .cls "Grow"] = some (.bl false) := by kernel_rfl
theorem is_po_CropWidth  : dIsO ctN [st0 "Portrait", .cls "CropWidth"] = some (.bl false) := by kernel_rfl
theorem is_po_CropHeight  : dIsO ctN [st0 "Portrait", .cls "CropHeight"] = some (.bl false) := by kernel_rfl
theorem is_po_Turn  : dIsO ctN [st0 "Portrait", .cls "Turn"] = some (.bl false) := by kernel_rfl
theorem is_po_Landscape  : dIsO ctN [st0 "Portrait", .cls "Landscape"] = some (.bl false) := by kernel_rfl
theorem is_po_Portrait  : dIsO ctN [st0 "Portrait", .cls "Portrait"] = some (.bl true) := by kernel_rfl
theorem is_po_Scaling  : dIsO ctN [st0 "Portrait", .cls "Scaling"] = some (.bl false) := by kernel_rfl
theorem is_po_Crop  : dIsO ctN [st0 "Portrait", .cls "Crop"] = some (.bl false) := by kernel_rfl
theorem is_po_Step  : dIsO ctN [st0 "Portrait", .cls "Step"] = some (.bl true) := by kernel_rfl
theorem at_po_WORD  : ∀ (C : FEnv) st, attrD C "WORD" (attrTab ctA "WORD") (st0 "Portrait") st = .ok (.str "portrait") st := fun _ _ => by kernel_rfl
/-! ## the texts of steps -/
def Sp.tx : Sp → Str
  | .sh w h cv => ((((("shrink" : Str) ++ (" " : Str)) ++ nt w) ++ ("x" : Str)) ++ nt h) ++ (if cv = true then (" cover" : Str) else ("" : Str))
  | .gr w h cv => ((((("grow" : Str) ++ (" " : Str)) ++ nt w) ++ ("x" : Str)) ++ nt h) ++ (if cv = true then (" cover" : Str) else ("" : Str))
  | .cw w h k => (((((("width" : Str) ++ (" " : Str)) ++ nt w) ++ (":" : Str)) ++ nt h) ++ (" " : Str)) ++ k
  | .ch w h k => (((((("height" : Str) ++ (" " : Str)) ++ nt w) ++ (":" : Str)) ++ nt h) ++ (" " : Str)) ++ k
  | .tn n => ("turn " : Str) ++ nt n
  | .ls => "landscape"
  | .po => "portrait"
theorem sd_bits {n : Nat} (h : Sd n) : n < 2 ^ 1900 := Nat.lt_of_le_of_lt h.2 (by decide +kernel)
theorem sd_len {n : Nat} (h : Sd n) : (nt n).length ≤ 640 := nt_len (sd_bits h)
theorem fmt_sd {n : Nat} (h : Sd n) : dFmt (.int (n : Nat)) = some (.str (nt n)) := fmt_nt (sd_bits h)
theorem str_sd {n : Nat} (h : Sd n) : dStr [.int (n : Nat)] = some (.str (nt n)) := str_nt (sd_bits h)
theorem fmt_str {x : Str} (h : x.length ≤ 3000) : dFmt (.str x) = some (.str x) := by
  show (if _ then _ else _) = _
  rw [if_pos (Nat.le_trans h (by rw [sizeLine_eq]; decide))]
theorem keep_len {c k : Str} (h : (k = "left" ∨ k = "center" ∨ k = "right") ∨ (k = "top" ∨ k = "center" ∨ k = "bottom")) : k.length ≤ 6 := by
  rcases h with (rfl | rfl | rfl) | (rfl | rfl | rfl) <;> decide +kernel
theorem Sp.tx_len {s : Sp} (hs : s.ok) : s.tx.length ≤ 1400 := by
  have l1 : ("shrink" : Str).length = 6 := by decide +kernel
  have l2 : ("grow" : Str).length = 4 := by decide +kernel
  have l3 : ("width" : Str).length = 5 := by decide +kernel
  have l4 : ("height" : Str).length = 6 := by decide +kernel
  have l5 : (" " : Str).length = 1 := by decide +kernel
  have l6 : ("x" : Str).length = 1 := by decide +kernel
  have l7 : (":" : Str).length = 1 := by decide +kernel
  have l8 : ("turn " : Str).length = 5 := by decide +kernel
  have l9 : ∀ cv : Bool, (if cv = true then (" cover" : Str) else ("" : Str)).length ≤ 6 := fun cv => by cases cv <;> decide +kernel
  cases s with
  | sh w h cv =>
    have a := sd_len hs.1
    have b := sd_len hs.2
    have c := l9 cv
    show (((((("shrink" : Str) ++ (" " : Str)) ++ nt w) ++ ("x" : Str)) ++ nt h) ++ (if cv = true then (" cover" : Str) else ("" : Str))).length ≤ _
    simp only [app_len]
    omega
  | gr w h cv =>
    have a := sd_len hs.1
    have b := sd_len hs.2
    have c := l9 cv
    show (((((("grow" : Str) ++ (" " : Str)) ++ nt w) ++ ("x" : Str)) ++ nt h) ++ (if cv = true then (" cover" : Str) else ("" : Str))).length ≤ _
    simp only [app_len]
    omega
  | cw w h k =>
    have a := sd_len hs.1
    have b := sd_len hs.2.1
    have c := keep_len (c := k) (.inl hs.2.2)
    show ((((((("width" : Str) ++ (" " : Str)) ++ nt w) ++ (":" : Str)) ++ nt h) ++ (" " : Str)) ++ k).length ≤ _
    simp only [app_len]
    omega
  | ch w h k =>
    have a := sd_len hs.1
    have b := sd_len hs.2.1
    have c := keep_len (c := k) (.inr hs.2.2)
    show ((((((("height" : Str) ++ (" " : Str)) ++ nt w) ++ (":" : Str)) ++ nt h) ++ (" " : Str)) ++ k).length ≤ _
    simp only [app_len]
    omega
  | tn n =>
    have hn : n < 2 ^ 1900 := Nat.lt_of_le_of_lt (show n ≤ 3 by rcases hs with rfl | rfl | rfl <;> decide) (by decide +kernel)
    have a := nt_len hn
    show (("turn " : Str) ++ nt n).length ≤ _
    simp only [app_len]
    omega
  | ls => show ("landscape" : Str).length ≤ _; decide +kernel
  | po => show ("portrait" : Str).length ≤ _; decide +kernel
/-! ## parts_of, written, str, repr -/
abbrev IsPartsOf (C : FEnv) : Prop := ∀ (s : Sp) st, C "parts_of" [s.o] st = .ok s.d st
theorem ok_partsof {C C' : FEnv} (e : C' "parts_of" = body 1 b_parts_of C) : IsPartsOf C' := fun s st => by
  rw [e]
  unfold b_parts_of
  cases s with
  | sh w h cv => show body 1 _ C [bx "Shrink" "cover" w h (.bl cv)] st = _; simp_arith [is_sh_Scaling, at_sh_WORD, at_sh_width, at_sh_height, at_sh_cover]; rfl
  | gr w h cv => show body 1 _ C [bx "Grow" "cover" w h (.bl cv)] st = _; simp_arith [is_gr_Scaling, at_gr_WORD, at_gr_width, at_gr_height, at_gr_cover]; rfl
  | cw w h k => show body 1 _ C [bx "CropWidth" "keep" w h (.str k)] st = _; simp_arith [is_cw_Scaling, is_cw_Crop, at_cw_WORD, at_cw_width, at_cw_height, at_cw_keep]; rfl
  | ch w h k => show body 1 _ C [bx "CropHeight" "keep" w h (.str k)] st = _; simp_arith [is_ch_Scaling, is_ch_Crop, at_ch_WORD, at_ch_width, at_ch_height, at_ch_keep]; rfl
  | tn n => show body 1 _ C [DS.tn (n : Nat)] st = _; simp_arith [is_tn_Scaling, is_tn_Crop, is_tn_Turn, at_tn_WORD, at_tn_times]; rfl
  | ls => show body 1 _ C [st0 "Landscape"] st = _; simp_arith [is_ls_Scaling, is_ls_Crop, is_ls_Turn, at_ls_WORD]; rfl
  | po => show body 1 _ C [st0 "Portrait"] st = _; simp_arith [is_po_Scaling, is_po_Crop, is_po_Turn, at_po_WORD]; rfl
abbrev IsWritten (C : FEnv) : Prop := ∀ (s : Sp) st, s.ok → C "written" [s.o] st = .ok (.str s.tx) st
theorem cover_app : (" " : Str) ++ ("cover" : Str) = (" cover" : Str) := by decide +kernel
theorem p_gStar2 {C : FEnv} {r : REnv} {st : Store} {t u : Tg} {a : D} {ds : List D} (h : ds.length ≤ 100) : gStarT [t, u] C (.tup (a :: ds)) r st = lift (bindTs [t, u] [a, .lst ds] r) st := by
  show (if _ then _ else _) = _
  rw [if_pos ⟨by simp, by simp only [List.length_cons]; omega, by simp⟩]
  rfl
theorem js_len {x : Str} {n : Nat} (h : x.length ≤ n) (hn : n ≤ 3000) : (x.length ≤ sizeLine) = True := eq_true (Nat.le_trans h (Nat.le_trans hn (by rw [sizeLine_eq]; decide)))
theorem ok_written {C C' : FEnv} (e : C' "written" = body 4 b_written C) (hp : IsPartsOf C) : IsWritten C' := fun s st hs => by
  rw [e]
  unfold b_written
  have h1 := fun st => hp s st
  have l1 : ("shrink" : Str).length = 6 := by decide +kernel
  have l2 : ("grow" : Str).length = 4 := by decide +kernel
  have l3 : ("width" : Str).length = 5 := by decide +kernel
  have l4 : ("height" : Str).length = 6 := by decide +kernel
  have l5 : (" " : Str).length = 1 := by decide +kernel
  have l6 : ("x" : Str).length = 1 := by decide +kernel
  have l7 : (":" : Str).length = 1 := by decide +kernel
  have l9 : (" cover" : Str).length = 6 := by decide +kernel
  have l10 : ("" : Str).length = 0 := by decide +kernel
  have l11 : ("cover" : Str).length = 5 := by decide +kernel
  have i0 : ∀ (a b c : D) st, dIx (.lst [a, b, c]) (.int 0) st = some a := fun _ _ _ _ => rfl
  have i1 : ∀ (a b c : D) st, dIx (.lst [a, b, c]) (.int 1) st = some b := fun _ _ _ _ => rfl
  have i2 : ∀ (a b c : D) st, dIx (.lst [a, b, c]) (.int 2) st = some c := fun _ _ _ _ => rfl
  have kk : 3000 ≤ sizeLine := by rw [sizeLine_eq]; decide
  have z1 : ((1 : Nat) ≤ sizeLine) = True := eq_true (by omega)
  have z2 : ((2 : Nat) ≤ sizeLine) = True := eq_true (by omega)
  cases s with
  | sh w h cv =>
    have a := sd_len hs.1
    have b := sd_len hs.2
    have g1 := fun st r => p_gStar2 (C := C) (r := r) (st := st) (t := .nm 1) (u := .nm 2) (a := .str "shrink") (ds := [.int (w : Nat), .int (h : Nat), .bl cv]) (by simp)
    have f0 := fmt_str (x := "shrink") (by omega)
    have f1 := fmt_sd hs.1
    have f2 := fmt_sd hs.2
    have h1 : ∀ st, C "parts_of" [bx "Shrink" "cover" w h (.bl cv)] st = .ok (.tup [.str "shrink", .int (w : Nat), .int (h : Nat), .bl cv]) st := h1
    have c1 : (("shrink" : Str).length ≤ sizeLine) = True := eq_true (by omega)
    have c2 : ((("shrink" : Str) ++ (" " : Str)).length ≤ sizeLine) = True := eq_true (by simp only [app_len]; omega)
    have c3 : (((("shrink" : Str) ++ (" " : Str)) ++ nt w).length ≤ sizeLine) = True := eq_true (by simp only [app_len]; omega)
    have c4 : ((((("shrink" : Str) ++ (" " : Str)) ++ nt w) ++ ("x" : Str)).length ≤ sizeLine) = True := eq_true (by simp only [app_len]; omega)
    have c5 : (((((("shrink" : Str) ++ (" " : Str)) ++ nt w) ++ ("x" : Str)) ++ nt h).length ≤ sizeLine) = True := eq_true (by simp only [app_len]; omega)
    have a1 := add_str (x := " ") (y := "cover") (by omega)
    have a2 := add_str (x := ((((("shrink" : Str) ++ (" " : Str)) ++ nt w) ++ ("x" : Str)) ++ nt h)) (y := " cover") (by simp only [app_len]; omega)
    have a3 := add_str (x := ((((("shrink" : Str) ++ (" " : Str)) ++ nt w) ++ ("x" : Str)) ++ nt h)) (y := "") (by simp only [app_len]; omega)
    rw [cover_app] at a1
    show body 4 _ C [bx "Shrink" "cover" w h (.bl cv)] st = .ok (.str (((((("shrink" : Str) ++ (" " : Str)) ++ nt w) ++ ("x" : Str)) ++ nt h) ++ (if cv = true then (" cover" : Str) else ("" : Str)))) st
    cases cv <;> simp -dsimp -implicitDefEqProofs only [a1, a2, a3, h1, g1, is_sh_Scaling, f0, f1, f2, i0, i1, i2, emp_app, c1, c2, c3, c4, c5, ↓p_body, ↓p_sSeq, ↓p_sAsg, ↓p_sRet, ↓p_sIf, ↓p_eVar, ↓p_eC, ↓p_eUn, ↓p_eBin, ↓p_aNil, ↓p_aCons, ↓p_eCallK, ↓p_eBlt, ↓p_tE, ↓p_eIf, ↓p_eIxx, ↓p_eJs, ↓p_js0, ↓p_jsS, ↓bnd_ok, bnd_ok, ↓bind_ok, ↓to_bnd, lift_some, bnd_bnd, ↓reduceIte, bindT, bindTs, dTru, pickD, List.map_cons, List.map_nil, List.getD_cons_zero, List.getElem?_cons_zero, List.getElem?_cons_succ, List.set_cons_zero, List.set_cons_succ, List.length_cons, List.length_nil, List.replicate, List.cons_append, List.nil_append, Nat.reduceAdd, Nat.reduceSub, if_true, if_false, Bool.false_eq_true]
  | gr w h cv =>
    have a := sd_len hs.1
    have b := sd_len hs.2
    have g1 := fun st r => p_gStar2 (C := C) (r := r) (st := st) (t := .nm 1) (u := .nm 2) (a := .str "grow") (ds := [.int (w : Nat), .int (h : Nat), .bl cv]) (by simp)
    have f0 := fmt_str (x := "grow") (by omega)
    have f1 := fmt_sd hs.1
    have f2 := fmt_sd hs.2
    have h1 : ∀ st, C "parts_of" [bx "Grow" "cover" w h (.bl cv)] st = .ok (.tup [.str "grow", .int (w : Nat), .int (h : Nat), .bl cv]) st := h1
    have c1 : (("grow" : Str).length ≤ sizeLine) = True := eq_true (by omega)
    have c2 : ((("grow" : Str) ++ (" " : Str)).length ≤ sizeLine) = True := eq_true (by simp only [app_len]; omega)
    have c3 : (((("grow" : Str) ++ (" " : Str)) ++ nt w).length ≤ sizeLine) = True := eq_true (by simp only [app_len]; omega)
    have c4 : ((((("grow" : Str) ++ (" " : Str)) ++ nt w) ++ ("x" : Str)).length ≤ sizeLine) = True := eq_true (by simp only [app_len]; omega)
    have c5 : (((((("grow" : Str) ++ (" " : Str)) ++ nt w) ++ ("x" : Str)) ++ nt h).length ≤ sizeLine) = True := eq_true (by simp only [app_len]; omega)
    have a1 := add_str (x := " ") (y := "cover") (by omega)
    have a2 := add_str (x := ((((("grow" : Str) ++ (" " : Str)) ++ nt w) ++ ("x" : Str)) ++ nt h)) (y := " cover") (by simp only [app_len]; omega)
    have a3 := add_str (x := ((((("grow" : Str) ++ (" " : Str)) ++ nt w) ++ ("x" : Str)) ++ nt h)) (y := "") (by simp only [app_len]; omega)
    rw [cover_app] at a1
    show body 4 _ C [bx "Grow" "cover" w h (.bl cv)] st = .ok (.str (((((("grow" : Str) ++ (" " : Str)) ++ nt w) ++ ("x" : Str)) ++ nt h) ++ (if cv = true then (" cover" : Str) else ("" : Str)))) st
    cases cv <;> simp -dsimp -implicitDefEqProofs only [a1, a2, a3, h1, g1, is_gr_Scaling, f0, f1, f2, i0, i1, i2, emp_app, c1, c2, c3, c4, c5, ↓p_body, ↓p_sSeq, ↓p_sAsg, ↓p_sRet, ↓p_sIf, ↓p_eVar, ↓p_eC, ↓p_eUn, ↓p_eBin, ↓p_aNil, ↓p_aCons, ↓p_eCallK, ↓p_eBlt, ↓p_tE, ↓p_eIf, ↓p_eIxx, ↓p_eJs, ↓p_js0, ↓p_jsS, ↓bnd_ok, bnd_ok, ↓bind_ok, ↓to_bnd, lift_some, bnd_bnd, ↓reduceIte, bindT, bindTs, dTru, pickD, List.map_cons, List.map_nil, List.getD_cons_zero, List.getElem?_cons_zero, List.getElem?_cons_succ, List.set_cons_zero, List.set_cons_succ, List.length_cons, List.length_nil, List.replicate, List.cons_append, List.nil_append, Nat.reduceAdd, Nat.reduceSub, if_true, if_false, Bool.false_eq_true]
  | cw w h k =>
    have a := sd_len hs.1
    have b := sd_len hs.2.1
    have kl := keep_len (c := k) (.inl hs.2.2)
    have g1 := fun st r => p_gStar2 (C := C) (r := r) (st := st) (t := .nm 1) (u := .nm 2) (a := .str "width") (ds := [.int (w : Nat), .int (h : Nat), .str k]) (by simp)
    have f0 := fmt_str (x := "width") (by omega)
    have f1 := fmt_sd hs.1
    have f2 := fmt_sd hs.2.1
    have f3 := fmt_str (x := k) (by omega)
    have h1 : ∀ st, C "parts_of" [bx "CropWidth" "keep" w h (.str k)] st = .ok (.tup [.str "width", .int (w : Nat), .int (h : Nat), .str k]) st := h1
    have c1 : (("width" : Str).length ≤ sizeLine) = True := eq_true (by omega)
    have c2 : ((("width" : Str) ++ (" " : Str)).length ≤ sizeLine) = True := eq_true (by simp only [app_len]; omega)
    have c3 : (((("width" : Str) ++ (" " : Str)) ++ nt w).length ≤ sizeLine) = True := eq_true (by simp only [app_len]; omega)
    have c4 : ((((("width" : Str) ++ (" " : Str)) ++ nt w) ++ (":" : Str)).length ≤ sizeLine) = True := eq_true (by simp only [app_len]; omega)
    have c5 : (((((("width" : Str) ++ (" " : Str)) ++ nt w) ++ (":" : Str)) ++ nt h).length ≤ sizeLine) = True := eq_true (by simp only [app_len]; omega)
    have c6 : ((((((("width" : Str) ++ (" " : Str)) ++ nt w) ++ (":" : Str)) ++ nt h) ++ (" " : Str)).length ≤ sizeLine) = True := eq_true (by simp only [app_len]; omega)
    have c7 : (((((((("width" : Str) ++ (" " : Str)) ++ nt w) ++ (":" : Str)) ++ nt h) ++ (" " : Str)) ++ k).length ≤ sizeLine) = True := eq_true (by simp only [app_len]; omega)
    show body 4 _ C [bx "CropWidth" "keep" w h (.str k)] st = .ok (.str ((((((("width" : Str) ++ (" " : Str)) ++ nt w) ++ (":" : Str)) ++ nt h) ++ (" " : Str)) ++ k)) st
    simp_arith [h1, g1, is_cw_Scaling, is_cw_Crop, f0, f1, f2, f3, i0, i1, i2, emp_app, c1, c2, c3, c4, c5, c6, c7]
  | ch w h k =>
    have a := sd_len hs.1
    have b := sd_len hs.2.1
    have kl := keep_len (c := k) (.inr hs.2.2)
    have g1 := fun st r => p_gStar2 (C := C) (r := r) (st := st) (t := .nm 1) (u := .nm 2) (a := .str "height") (ds := [.int (w : Nat), .int (h : Nat), .str k]) (by simp)
    have f0 := fmt_str (x := "height") (by omega)
    have f1 := fmt_sd hs.1
    have f2 := fmt_sd hs.2.1
    have f3 := fmt_str (x := k) (by omega)
    have h1 : ∀ st, C "parts_of" [bx "CropHeight" "keep" w h (.str k)] st = .ok (.tup [.str "height", .int (w : Nat), .int (h : Nat), .str k]) st := h1
    have c1 : (("height" : Str).length ≤ sizeLine) = True := eq_true (by omega)
    have c2 : ((("height" : Str) ++ (" " : Str)).length ≤ sizeLine) = True := eq_true (by simp only [app_len]; omega)
    have c3 : (((("height" : Str) ++ (" " : Str)) ++ nt w).length ≤ sizeLine) = True := eq_true (by simp only [app_len]; omega)
    have c4 : ((((("height" : Str) ++ (" " : Str)) ++ nt w) ++ (":" : Str)).length ≤ sizeLine) = True := eq_true (by simp only [app_len]; omega)
    have c5 : (((((("height" : Str) ++ (" " : Str)) ++ nt w) ++ (":" : Str)) ++ nt h).length ≤ sizeLine) = True := eq_true (by simp only [app_len]; omega)
    have c6 : ((((((("height" : Str) ++ (" " : Str)) ++ nt w) ++ (":" : Str)) ++ nt h) ++ (" " : Str)).length ≤ sizeLine) = True := eq_true (by simp only [app_len]; omega)
    have c7 : (((((((("height" : Str) ++ (" " : Str)) ++ nt w) ++ (":" : Str)) ++ nt h) ++ (" " : Str)) ++ k).length ≤ sizeLine) = True := eq_true (by simp only [app_len]; omega)
    show body 4 _ C [bx "CropHeight" "keep" w h (.str k)] st = .ok (.str ((((((("height" : Str) ++ (" " : Str)) ++ nt w) ++ (":" : Str)) ++ nt h) ++ (" " : Str)) ++ k)) st
    simp_arith [h1, g1, is_ch_Scaling, is_ch_Crop, f0, f1, f2, f3, i0, i1, i2, emp_app, c1, c2, c3, c4, c5, c6, c7]
  | tn n =>
    have hn : n < 2 ^ 1900 := Nat.lt_of_le_of_lt (show n ≤ 3 by rcases hs with rfl | rfl | rfl <;> decide) (by decide +kernel)
    have g1 := fun st r => p_gStar2 (C := C) (r := r) (st := st) (t := .nm 1) (u := .nm 2) (a := .str "turn") (ds := [.int (n : Nat)]) (by simp)
    have h1 : ∀ st, C "parts_of" [DS.tn (n : Nat)] st = .ok (.tup [.str "turn", .int (n : Nat)]) st := h1
    have s1 := str_nt hn
    have ln : ((1 : Nat) < sizeLine) = True := eq_true (by rw [sizeLine_eq]; decide)
    have ad := dAdd_lst (xs := [.str "turn"]) (ys := [.str (nt n)]) (by simp)
    have jn : dJoin (.str " ") (.lst [.str "turn", .str (nt n)]) = some (.str (("turn " : Str) ++ nt n)) := by
      rcases hs with rfl | rfl | rfl <;> kernel_rfl
    show body 4 _ C [DS.tn (n : Nat)] st = .ok (.str (("turn " : Str) ++ nt n)) st
    simp_arith [h1, g1, is_tn_Scaling, is_tn_Crop, s1, ↓p_eComp, ↓p_comp0, ↓p_compS, wipeR, ln, z1, z2, jn]
  | ls =>
    have g1 := fun st r => p_gStar2 (C := C) (r := r) (st := st) (t := .nm 1) (u := .nm 2) (a := .str "landscape") (ds := []) (by simp)
    have h1 : ∀ st, C "parts_of" [st0 "Landscape"] st = .ok (.tup [.str "landscape"]) st := h1
    have ln : ((0 : Nat) < sizeLine) = True := eq_true (by rw [sizeLine_eq]; decide)
    have ad := dAdd_lst (xs := [.str "landscape"]) (ys := []) (by simp)
    have jn : dJoin (.str " ") (.lst [.str "landscape"]) = some (.str ("landscape" : Str)) := by kernel_rfl
    show body 4 _ C [st0 "Landscape"] st = .ok (.str ("landscape" : Str)) st
    simp_arith [h1, g1, is_ls_Scaling, is_ls_Crop, ↓p_eComp, ↓p_comp0, ↓p_compS, wipeR, ln, z1, z2, jn]
  | po =>
    have g1 := fun st r => p_gStar2 (C := C) (r := r) (st := st) (t := .nm 1) (u := .nm 2) (a := .str "portrait") (ds := []) (by simp)
    have h1 : ∀ st, C "parts_of" [st0 "Portrait"] st = .ok (.tup [.str "portrait"]) st := h1
    have ln : ((0 : Nat) < sizeLine) = True := eq_true (by rw [sizeLine_eq]; decide)
    have ad := dAdd_lst (xs := [.str "portrait"]) (ys := []) (by simp)
    have jn : dJoin (.str " ") (.lst [.str "portrait"]) = some (.str ("portrait" : Str)) := by kernel_rfl
    show body 4 _ C [st0 "Portrait"] st = .ok (.str ("portrait" : Str)) st
    simp_arith [h1, g1, is_po_Scaling, is_po_Crop, ↓p_eComp, ↓p_comp0, ↓p_compS, wipeR, ln, z1, z2, jn]
abbrev IsStStr (C : FEnv) : Prop := ∀ (s : Sp) st, s.ok → C "Step.__str__" [s.o] st = .ok (.str s.tx) st
theorem str_str {x : Str} (h : x.length ≤ 3000) : dStr [.str x] = some (.str x) := by
  first
    | rfl
    | (show (if _ then _ else _) = _; rw [if_pos (Nat.le_trans h (by rw [sizeLine_eq]; decide))])
theorem ok_ststr {C C' : FEnv} (e : C' "Step.__str__" = body 1 b_Step___str__ C) (hw : IsWritten C) : IsStStr C' := fun s st hs => by
  rw [e]
  unfold b_Step___str__
  have h1 := fun st => hw s st hs
  have h2 := str_str (x := s.tx) (Nat.le_trans (Sp.tx_len hs) (by decide))
  simp_arith [h1, h2]
abbrev IsShowS (C : FEnv) : Prop := ∀ (s : Sp) st, s.ok → C "_law_shown" [s.d] st = .ok (.str s.tx) st
theorem ok_shows {C C' : FEnv} (e : C' "_law_shown" = body 2 b_law_shown C) : IsShowS C' := fun s st hs => by
  rw [e]
  unfold b_law_shown
  have i2 : ∀ (a b c d : D) st, dIx (.tup [a, b, c, d]) (.int 2) st = some c := fun _ _ _ _ _ => rfl
  have i3 : ∀ (a b c d : D) st, dIx (.tup [a, b, c, d]) (.int 3) st = some d := fun _ _ _ _ _ => rfl
  have j1 : dIn (.str "shrink") (.tup [.str "shrink", .str "grow"]) = some (.bl true) := by kernel_rfl
  have j2 : dIn (.str "grow") (.tup [.str "shrink", .str "grow"]) = some (.bl true) := by kernel_rfl
  have j3 : dIn (.str "width") (.tup [.str "shrink", .str "grow"]) = some (.bl false) := by kernel_rfl
  have j4 : dIn (.str "height") (.tup [.str "shrink", .str "grow"]) = some (.bl false) := by kernel_rfl
  have j5 : dIn (.str "turn") (.tup [.str "shrink", .str "grow"]) = some (.bl false) := by kernel_rfl
  have j6 : dIn (.str "landscape") (.tup [.str "shrink", .str "grow"]) = some (.bl false) := by kernel_rfl
  have j7 : dIn (.str "portrait") (.tup [.str "shrink", .str "grow"]) = some (.bl false) := by kernel_rfl
  have k3 : dIn (.str "width") (.tup [.str "width", .str "height"]) = some (.bl true) := by kernel_rfl
  have k4 : dIn (.str "height") (.tup [.str "width", .str "height"]) = some (.bl true) := by kernel_rfl
  have k5 : dIn (.str "turn") (.tup [.str "width", .str "height"]) = some (.bl false) := by kernel_rfl
  have k6 : dIn (.str "landscape") (.tup [.str "width", .str "height"]) = some (.bl false) := by kernel_rfl
  have k7 : dIn (.str "portrait") (.tup [.str "width", .str "height"]) = some (.bl false) := by kernel_rfl
  have e1 : (("landscape" : Str) == ("turn" : Str)) = false := by decide +kernel
  have e2 : (("portrait" : Str) == ("turn" : Str)) = false := by decide +kernel
  have l1 : ("shrink" : Str).length = 6 := by decide +kernel
  have l2 : ("grow" : Str).length = 4 := by decide +kernel
  have l3 : ("width" : Str).length = 5 := by decide +kernel
  have l4 : ("height" : Str).length = 6 := by decide +kernel
  have l5 : (" " : Str).length = 1 := by decide +kernel
  have l6 : ("x" : Str).length = 1 := by decide +kernel
  have l7 : (":" : Str).length = 1 := by decide +kernel
  have l8 : ("turn " : Str).length = 5 := by decide +kernel
  have l9 : (" cover" : Str).length = 6 := by decide +kernel
  have l10 : ("" : Str).length = 0 := by decide +kernel
  have kk : 3000 ≤ sizeLine := by rw [sizeLine_eq]; decide
  cases s with
  | sh w h cv =>
    have a := sd_len hs.1
    have b := sd_len hs.2
    have f1 := str_sd hs.1
    have f2 := str_sd hs.2
    have c2 : (("shrink" : Str).length + (" " : Str).length ≤ sizeLine) = True := eq_true (by omega)
    have c3 : ((("shrink" : Str) ++ (" " : Str)).length + (nt w).length ≤ sizeLine) = True := eq_true (by simp only [app_len]; omega)
    have c4 : (((("shrink" : Str) ++ (" " : Str)) ++ nt w).length + ("x" : Str).length ≤ sizeLine) = True := eq_true (by simp only [app_len]; omega)
    have c5 : ((((("shrink" : Str) ++ (" " : Str)) ++ nt w) ++ ("x" : Str)).length + (nt h).length ≤ sizeLine) = True := eq_true (by simp only [app_len]; omega)
    have c6 : (((((("shrink" : Str) ++ (" " : Str)) ++ nt w) ++ ("x" : Str)) ++ nt h).length + (" cover" : Str).length ≤ sizeLine) = True := eq_true (by simp only [app_len]; omega)
    have c7 : (((((("shrink" : Str) ++ (" " : Str)) ++ nt w) ++ ("x" : Str)) ++ nt h).length + ("" : Str).length ≤ sizeLine) = True := eq_true (by simp only [app_len]; omega)
    show body 2 _ C [.tup [.str "shrink", .int (w : Nat), .int (h : Nat), .bl cv]] st = .ok (.str (((((("shrink" : Str) ++ (" " : Str)) ++ nt w) ++ ("x" : Str)) ++ nt h) ++ (if cv = true then (" cover" : Str) else ("" : Str)))) st
    cases cv <;> simp_arith [i2, i3, j1, f1, f2, c2, c3, c4, c5, c6, c7]
  | gr w h cv =>
    have a := sd_len hs.1
    have b := sd_len hs.2
    have f1 := str_sd hs.1
    have f2 := str_sd hs.2
    have c2 : (("grow" : Str).length + (" " : Str).length ≤ sizeLine) = True := eq_true (by omega)
    have c3 : ((("grow" : Str) ++ (" " : Str)).length + (nt w).length ≤ sizeLine) = True := eq_true (by simp only [app_len]; omega)
    have c4 : (((("grow" : Str) ++ (" " : Str)) ++ nt w).length + ("x" : Str).length ≤ sizeLine) = True := eq_true (by simp only [app_len]; omega)
    have c5 : ((((("grow" : Str) ++ (" " : Str)) ++ nt w) ++ ("x" : Str)).length + (nt h).length ≤ sizeLine) = True := eq_true (by simp only [app_len]; omega)
    have c6 : (((((("grow" : Str) ++ (" " : Str)) ++ nt w) ++ ("x" : Str)) ++ nt h).length + (" cover" : Str).length ≤ sizeLine) = True := eq_true (by simp only [app_len]; omega)
    have c7 : (((((("grow" : Str) ++ (" " : Str)) ++ nt w) ++ ("x" : Str)) ++ nt h).length + ("" : Str).length ≤ sizeLine) = True := eq_true (by simp only [app_len]; omega)
    show body 2 _ C [.tup [.str "grow", .int (w : Nat), .int (h : Nat), .bl cv]] st = .ok (.str (((((("grow" : Str) ++ (" " : Str)) ++ nt w) ++ ("x" : Str)) ++ nt h) ++ (if cv = true then (" cover" : Str) else ("" : Str)))) st
    cases cv <;> simp_arith [i2, i3, j2, f1, f2, c2, c3, c4, c5, c6, c7]
  | cw w h k =>
    have a := sd_len hs.1
    have b := sd_len hs.2.1
    have kl := keep_len (c := k) (.inl hs.2.2)
    have f1 := str_sd hs.1
    have f2 := str_sd hs.2.1
    have c2 : (("width" : Str).length + (" " : Str).length ≤ sizeLine) = True := eq_true (by omega)
    have c3 : ((("width" : Str) ++ (" " : Str)).length + (nt w).length ≤ sizeLine) = True := eq_true (by simp only [app_len]; omega)
    have c4 : (((("width" : Str) ++ (" " : Str)) ++ nt w).length + (":" : Str).length ≤ sizeLine) = True := eq_true (by simp only [app_len]; omega)
    have c5 : ((((("width" : Str) ++ (" " : Str)) ++ nt w) ++ (":" : Str)).length + (nt h).length ≤ sizeLine) = True := eq_true (by simp only [app_len]; omega)
    have c6 : (((((("width" : Str) ++ (" " : Str)) ++ nt w) ++ (":" : Str)) ++ nt h).length + (" " : Str).length ≤ sizeLine) = True := eq_true (by simp only [app_len]; omega)
    have c7 : ((((((("width" : Str) ++ (" " : Str)) ++ nt w) ++ (":" : Str)) ++ nt h) ++ (" " : Str)).length + k.length ≤ sizeLine) = True := eq_true (by simp only [app_len]; omega)
    show body 2 _ C [.tup [.str "width", .int (w : Nat), .int (h : Nat), .str k]] st = .ok (.str ((((((("width" : Str) ++ (" " : Str)) ++ nt w) ++ (":" : Str)) ++ nt h) ++ (" " : Str)) ++ k)) st
    simp_arith [i2, i3, j3, k3, f1, f2, c2, c3, c4, c5, c6, c7]
  | ch w h k =>
    have a := sd_len hs.1
    have b := sd_len hs.2.1
    have kl := keep_len (c := k) (.inr hs.2.2)
    have f1 := str_sd hs.1
    have f2 := str_sd hs.2.1
    have c2 : (("height" : Str).length + (" " : Str).length ≤ sizeLine) = True := eq_true (by omega)
    have c3 : ((("height" : Str) ++ (" " : Str)).length + (nt w).length ≤ sizeLine) = True := eq_true (by simp only [app_len]; omega)
    have c4 : (((("height" : Str) ++ (" " : Str)) ++ nt w).length + (":" : Str).length ≤ sizeLine) = True := eq_true (by simp only [app_len]; omega)
    have c5 : ((((("height" : Str) ++ (" " : Str)) ++ nt w) ++ (":" : Str)).length + (nt h).length ≤ sizeLine) = True := eq_true (by simp only [app_len]; omega)
    have c6 : (((((("height" : Str) ++ (" " : Str)) ++ nt w) ++ (":" : Str)) ++ nt h).length + (" " : Str).length ≤ sizeLine) = True := eq_true (by simp only [app_len]; omega)
    have c7 : ((((((("height" : Str) ++ (" " : Str)) ++ nt w) ++ (":" : Str)) ++ nt h) ++ (" " : Str)).length + k.length ≤ sizeLine) = True := eq_true (by simp only [app_len]; omega)
    show body 2 _ C [.tup [.str "height", .int (w : Nat), .int (h : Nat), .str k]] st = .ok (.str ((((((("height" : Str) ++ (" " : Str)) ++ nt w) ++ (":" : Str)) ++ nt h) ++ (" " : Str)) ++ k)) st
    simp_arith [i2, i3, j4, k4, f1, f2, c2, c3, c4, c5, c6, c7]
  | tn n =>
    have hn : n < 2 ^ 1900 := Nat.lt_of_le_of_lt (show n ≤ 3 by rcases hs with rfl | rfl | rfl <;> decide) (by decide +kernel)
    have a := nt_len hn
    have s1 := str_nt hn
    have c1 : (("turn " : Str).length + (nt n).length ≤ sizeLine) = True := eq_true (by omega)
    show body 2 _ C [.tup [.str "turn", .int (n : Nat)]] st = .ok (.str (("turn " : Str) ++ nt n)) st
    simp_arith [j5, k5, s1, c1, beq_self_eq_true]
  | ls =>
    show body 2 _ C [.tup [.str "landscape"]] st = .ok (.str ("landscape" : Str)) st
    simp_arith [j6, k6, e1]
  | po =>
    show body 2 _ C [.tup [.str "portrait"]] st = .ok (.str ("portrait" : Str)) st
    simp_arith [j7, k7, e2]
/-! ## chains -/
def chn (ss : List Sp) : D := .obj "Chain" ["held"] [.tup (ss.map Sp.o)]
theorem sp_isStep (s : Sp) : dIsO ctN [s.o, .cls "Step"] = some (.bl true) := by
  cases s <;> kernel_rfl
abbrev IsCount (C : FEnv) : Prop := ∀ (n : Int) st, n ≤ 60 → C "check_count" [.int n] st = .ok .non st
theorem ok_count {C C' : FEnv} (e : C' "check_count" = body 1 b_check_count C) : IsCount C' := fun n st h => by
  rw [e]
  unfold b_check_count
  have d : decide (n > 60) = false := decide_eq_false (by omega)
  have d2 : decide (60 < n) = false := decide_eq_false (by omega)
  simp_arith [d, d2]
theorem at_held (ss : List Sp) : ∀ (C : FEnv) st, attrD C "held" (attrTab ctA "held") (chn ss) st = .ok (.tup (ss.map Sp.o)) st := fun _ _ => by kernel_rfl
/-! ### Chain.__init__ -/
abbrev IsChainI (C : FEnv) : Prop := ∀ (ss : List Sp) (st : Store), ss.length ≤ 60 → C "Chain.__init__" [.cell st.length, .tup (ss.map Sp.o)] (st ++ [.obj "Chain" [] []]) = .ok .non (st ++ [.obj "Chain" ["held"] [.tup (ss.map Sp.o)]])
theorem ok_chainI {C C' : FEnv} (e : C' "Chain.__init__" = body 4 b_Chain___init__ C) (hc : IsCount C) : IsChainI C' := fun ss st hl => by
  rw [e]
  unfold b_Chain___init__
  have c1 := fun st => hc (ss.length : Nat) st (by omega)
  have ln : dLen [.tup (ss.map Sp.o)] = some (.int (ss.length : Nat)) := by
    show some (D.int (((ss.map Sp.o).length : Nat) : Int)) = _
    rw [List.length_map]
  have lp := forGo_inv (C := C) (g := .tp [.nm 2, .nm 3]) (b := sIf (tNt (tE (eBlt (dIsO ctN) (aCons (eVar 3) (aCons (eC (.cls "Step")) aNil))))) sBad sNil)
    (I := fun r st' => (∃ a b, r = [.val (.cell st.length), .val (.tup (ss.map Sp.o)), a, b]) ∧ st' = st ++ [.obj "Chain" [] []]) (enumD (ss.map Sp.o)) [.val (.cell st.length), .val (.tup (ss.map Sp.o)), .un, .un] (st ++ [.obj "Chain" [] []])
    (fun x hx r st' hI => by
      obtain ⟨⟨a, b, rfl⟩, rfl⟩ := hI
      unfold enumD at hx
      obtain ⟨i, hi, rfl⟩ := List.mem_mapIdx.mp hx
      obtain ⟨s, es⟩ : ∃ s : Sp, (ss.map Sp.o)[i] = s.o := ⟨ss[i]'(by simpa using hi), by simp⟩
      rw [es]
      have q := sp_isStep s
      generalize s.o = so at q ⊢
      simp_arith [q, gives_ok]
      exact ⟨_, .inl rfl, ⟨_, _, rfl⟩, trivial⟩) ⟨⟨_, _, rfl⟩, rfl⟩
  obtain ⟨f, st1, e1, r', rfl, ⟨a, b, rfl⟩, rfl⟩ := lp
  have tf : (attrTab ctA "held").lookup ("Chain" : Str) = some AK.fld := by kernel_rfl
  generalize ss.map Sp.o = os at *
  simp_arith [e1, c1, ln, tf, get_end, set_end, putN, putX]
/-! ### check_chain, Chain.__add__ -/
theorem ch_isChain (ss : List Sp) : dIsO ctN [chn ss, .cls "Chain"] = some (.bl true) := by kernel_rfl
abbrev IsChkChain (C : FEnv) : Prop := ∀ (ss : List Sp) st, C "check_chain" [chn ss] st = .ok .non st
theorem ok_chkChain {C C' : FEnv} (e : C' "check_chain" = body 1 b_check_chain C) : IsChkChain C' := fun ss st => by
  rw [e]
  unfold b_check_chain
  have q := ch_isChain ss
  generalize chn ss = c at *
  simp_arith [q]
abbrev IsChainA (C : FEnv) : Prop := ∀ (a b : List Sp) (st : Store), a.length + b.length ≤ 60 → C "Chain.__add__" [chn a, chn b] st = .ok (chn (a ++ b)) (st ++ [.dead])
theorem ok_chainA {C C' : FEnv} (e : C' "Chain.__add__" = body 2 b_Chain___add__ C) (hk : IsChkChain C) (hc : IsCount C) (hi : IsChainI C) : IsChainA C' := fun a b st hl => by
  rw [e]
  unfold b_Chain___add__
  have k1 := fun st => hk b st
  have c1 := fun st => hc ((a.length : Nat) + (b.length : Nat)) st (by omega)
  have la : dLen [.tup (a.map Sp.o)] = some (.int (a.length : Nat)) := by
    show some (D.int (((a.map Sp.o).length : Nat) : Int)) = _
    rw [List.length_map]
  have lb : dLen [.tup (b.map Sp.o)] = some (.int (b.length : Nat)) := by
    show some (D.int (((b.map Sp.o).length : Nat) : Int)) = _
    rw [List.length_map]
  have ha := fun C st => at_held a C st
  have hb := fun C st => at_held b C st
  have i1 := hi (a ++ b) st (by rw [List.length_append]; exact hl)
  have lz : ((a.map Sp.o ++ b.map Sp.o).length ≤ 60) = True := eq_true (by simpa using hl)
  have ec : chn (a ++ b) = .obj "Chain" ["held"] [.tup (a.map Sp.o ++ b.map Sp.o)] := by unfold chn; rw [List.map_append]
  rw [ec]
  rw [List.map_append] at i1
  generalize chn a = ca at *
  generalize chn b = cb at *
  generalize a.map Sp.o = oa at *
  generalize b.map Sp.o = ob at *
  simp_arith [k1, c1, la, lb, ha, hb, i1, lz, List.append_nil]
theorem atI_nat {α : Type} {l : List α} {i : Nat} (h : i < l.length) : atI l (i : Nat) = l[i]? := by
  unfold atI ixN
  rw [if_pos (by omega), if_pos (by omega)]
  rfl
/-! ### == of steps -/
def Sp.p : Sp → PyData
  | .sh w h cv => .tuple [.str "shrink", .int (w : Nat), .int (h : Nat), .bool cv]
  | .gr w h cv => .tuple [.str "grow", .int (w : Nat), .int (h : Nat), .bool cv]
  | .cw w h k => .tuple [.str "width", .int (w : Nat), .int (h : Nat), .str k]
  | .ch w h k => .tuple [.str "height", .int (w : Nat), .int (h : Nat), .str k]
  | .tn n => .tuple [.str "turn", .int (n : Nat)]
  | .ls => .tuple [.str "landscape"]
  | .po => .tuple [.str "portrait"]
theorem Sp.toP (s : Sp) : DS.toP s.d = some s.p := by cases s <;> rfl
theorem Sp.shp {s : Sp} (hs : s.ok) : SeqAt.shaped s.p = true := by
  cases s with
  | cw w h k => rcases hs.2.2 with rfl | rfl | rfl <;> kernel_rfl
  | ch w h k => rcases hs.2.2 with rfl | rfl | rfl <;> kernel_rfl
  | sh w h cv => kernel_rfl
  | gr w h cv => kernel_rfl
  | tn n => kernel_rfl
  | ls => kernel_rfl
  | po => kernel_rfl
theorem natZ (a b : Nat) : ((a : Int) = (b : Int)) ↔ a = b := by omega
theorem wd_01 : (("shrink" : Str) == ("grow" : Str)) = false := by decide +kernel
theorem wd_02 : (("shrink" : Str) == ("width" : Str)) = false := by decide +kernel
theorem wd_03 : (("shrink" : Str) == ("height" : Str)) = false := by decide +kernel
theorem wd_04 : (("shrink" : Str) == ("turn" : Str)) = false := by decide +kernel
theorem wd_05 : (("shrink" : Str) == ("landscape" : Str)) = false := by decide +kernel
theorem wd_06 : (("shrink" : Str) == ("portrait" : Str)) = false := by decide +kernel
theorem wd_10 : (("grow" : Str) == ("shrink" : Str)) = false := by decide +kernel
theorem wd_12 : (("grow" : Str) == ("width" : Str)) = false := by decide +kernel
theorem wd_13 : (("grow" : Str) == ("height" : Str)) = false := by decide +kernel
theorem wd_14 : (("grow" : Str) == ("turn" : Str)) = false := by decide +kernel
theorem wd_15 : (("grow" : Str) == ("landscape" : Str)) = false := by decide +kernel
theorem wd_16 : (("grow" : Str) == ("portrait" : Str)) = false := by decide +kernel
theorem wd_20 : (("width" : Str) == ("shrink" : Str)) = false := by decide +kernel
theorem wd_21 : (("width" : Str) == ("grow" : Str)) = false := by decide +kernel
theorem wd_23 : (("width" : Str) == ("height" : Str)) = false := by decide +kernel
theorem wd_24 : (("width" : Str) == ("turn" : Str)) = false := by decide +kernel
theorem wd_25 : (("width" : Str) == ("landscape" : Str)) = false := by decide +kernel
theorem wd_26 : (("width" : Str) == ("portrait" : Str)) = false := by decide +kernel
theorem wd_30 : (("height" : Str) == ("shrink" : Str)) = false := by decide +kernel
theorem wd_31 : (("height" : Str) == ("grow" : Str)) = false := by decide +kernel
theorem wd_32 : (("height" : Str) == ("width" : Str)) = false := by decide +kernel
theorem wd_34 : (("height" : Str) == ("turn" : Str)) = false := by decide +kernel
theorem wd_35 : (("height" : Str) == ("landscape" : Str)) = false := by decide +kernel
theorem wd_36 : (("height" : Str) == ("portrait" : Str)) = false := by decide +kernel
theorem wd_40 : (("turn" : Str) == ("shrink" : Str)) = false := by decide +kernel
theorem wd_41 : (("turn" : Str) == ("grow" : Str)) = false := by decide +kernel
theorem wd_42 : (("turn" : Str) == ("width" : Str)) = false := by decide +kernel
theorem wd_43 : (("turn" : Str) == ("height" : Str)) = false := by decide +kernel
theorem wd_45 : (("turn" : Str) == ("landscape" : Str)) = false := by decide +kernel
theorem wd_46 : (("turn" : Str) == ("portrait" : Str)) = false := by decide +kernel
theorem wd_50 : (("landscape" : Str) == ("shrink" : Str)) = false := by decide +kernel
theorem wd_51 : (("landscape" : Str) == ("grow" : Str)) = false := by decide +kernel
theorem wd_52 : (("landscape" : Str) == ("width" : Str)) = false := by decide +kernel
theorem wd_53 : (("landscape" : Str) == ("height" : Str)) = false := by decide +kernel
theorem wd_54 : (("landscape" : Str) == ("turn" : Str)) = false := by decide +kernel
theorem wd_56 : (("landscape" : Str) == ("portrait" : Str)) = false := by decide +kernel
theorem wd_60 : (("portrait" : Str) == ("shrink" : Str)) = false := by decide +kernel
theorem wd_61 : (("portrait" : Str) == ("grow" : Str)) = false := by decide +kernel
theorem wd_62 : (("portrait" : Str) == ("width" : Str)) = false := by decide +kernel
theorem wd_63 : (("portrait" : Str) == ("height" : Str)) = false := by decide +kernel
theorem wd_64 : (("portrait" : Str) == ("turn" : Str)) = false := by decide +kernel
theorem wd_65 : (("portrait" : Str) == ("landscape" : Str)) = false := by decide +kernel
theorem Sp.eqv (s t : Sp) : PyData.eqv s.p t.p = decide (s = t) := by
  cases s <;> cases t <;> simp only [Sp.p, PyData.eqv, PyData.eqvAll, wd_01, wd_02, wd_03, wd_04, wd_05, wd_06, wd_10, wd_12, wd_13, wd_14, wd_15, wd_16, wd_20, wd_21, wd_23, wd_24, wd_25, wd_26, wd_30, wd_31, wd_32, wd_34, wd_35, wd_36, wd_40, wd_41, wd_42, wd_43, wd_45, wd_46, wd_50, wd_51, wd_52, wd_53, wd_54, wd_56, wd_60, wd_61, wd_62, wd_63, wd_64, wd_65, Bool.false_and, Bool.true_and, Bool.and_true, beq_self_eq_true, reduceCtorEq, decide_false, decide_true] <;> (first | done | (rw [Bool.eq_iff_iff]; simp [Bool.and_eq_true, natZ]))
theorem sp_dEq {s t : Sp} (hs : s.ok) (ht : t.ok) : dEq s.d t.d = some (.bl (decide (s = t))) := by
  have e : dEq s.d t.d = dEqv false s.d t.d := by cases s <;> rfl
  rw [e]
  unfold dEqv
  rw [Sp.toP, Sp.toP]
  show (if SeqAt.shaped s.p = true ∧ SeqAt.shaped t.p = true then some (D.bl (false ^^ PyData.eqv s.p t.p)) else none) = _
  rw [if_pos ⟨Sp.shp hs, Sp.shp ht⟩, Sp.eqv, Bool.false_xor]
abbrev IsStEq (C : FEnv) : Prop := (∀ (s t : Sp) st, s.ok → t.ok → C "Step.__eq__" [s.o, t.o] st = .ok (.bl (decide (s = t))) st) ∧ ∀ (s : Sp) (x : D) st, dIsO ctN [x, .cls "Step"] = some (.bl false) → C "Step.__eq__" [s.o, x] st = .ok (.bl false) st
theorem ok_stEq {C C' : FEnv} (e : C' "Step.__eq__" = body 2 b_Step___eq__ C) (hp : IsPartsOf C) : IsStEq C' := by
  refine ⟨fun s t st hs ht => ?_, fun s x st hx => ?_⟩
  · rw [e]
    unfold b_Step___eq__
    have q := sp_isStep t
    have p1 := fun st => hp s st
    have p2 := fun st => hp t st
    have d1 := sp_dEq hs ht
    generalize s.o = so at *
    generalize t.o = to at *
    generalize s.d = sd at *
    generalize t.d = td at *
    simp_arith [q, p1, p2, d1]
  · rw [e]
    unfold b_Step___eq__
    generalize s.o = so at *
    simp_arith [hx]
/-! ### _law_chain -/
theorem add_no (a b : List Sp) : dAdd (chn a) (chn b) = none := rfl
theorem add_chn {C : FEnv} (h : IsChainA C) {a b : List Sp} (hl : a.length + b.length ≤ 60) (st : Store) : oAddN (opTab ctS ctM "__add__" 2 isP2) C (chn a) (chn b) st = .ok (chn (a ++ b)) (st ++ [.dead]) := by
  have e : oAddN (opTab ctS ctM "__add__" 2 isP2) C (chn a) (chn b) st = C "Chain.__add__" [chn a, chn b] st := by kernel_rfl
  rw [e, h a b st hl]
abbrev IsChainL (C : FEnv) : Prop := ∀ (ss : List Sp) st, (∀ s ∈ ss, s.ok) → ss.length ≤ 60 → Gives (C "_law_chain" [.lst (ss.map Sp.d)] st) fun d st' => d = chn ss ∧ ∃ l, st' = st ++ l
theorem ok_chainL {C C' : FEnv} (e : C' "_law_chain" = body 3 b_law_chain C) (hm : IsSpMade C) (hi : IsChainI C) (ha : IsChainA C) : IsChainL C' := fun ss st hs hl => by
  have lp : ∀ (rest pre : List Sp) (L : D) (x : Slot) (st : Store), (∀ s ∈ rest, s.ok) → pre.length + rest.length ≤ 60 → ∃ x' l, forGo (.nm 2) (sAsg (eBinC (oAdd (opTab ctS ctM "__add__" 2 isP2) dAdd) (eVar 1) (eMake "Chain" "Chain.__init__" [.pos 0, .star 1] (aCons (eCallK "_law_made" [.pos 0] (aCons (eVar 2) aNil) aNil) aNil) aNil)) (gTg (.nm 1))) C (rest.map Sp.d) [.val L, .val (chn pre), x] st = .ok (.nx [.val L, .val (chn (pre ++ rest)), x']) (st ++ l) := by
    intro rest
    induction rest with
    | nil =>
      intro pre L x st _ _
      exact ⟨x, [], by rw [List.map_nil, p_for0, List.append_nil, List.append_nil]⟩
    | cons s rest ih =>
      intro pre L x st hs hl
      rw [List.length_cons] at hl
      have m1 := fun st => hm s st (hs s List.mem_cons_self)
      have i1 : ∀ st : Store, C "Chain.__init__" [.cell st.length, .tup [s.o]] (st ++ [.obj "Chain" [] []]) = .ok .non (st ++ [.obj "Chain" ["held"] [.tup [s.o]]]) := fun st => hi [s] st (by simp)
      have ec : D.obj "Chain" ["held"] [.tup [s.o]] = chn [s] := rfl
      have g1 := add_no pre [s]
      have a1 := fun st => add_chn ha (a := pre) (b := [s]) (by rw [List.length_singleton]; omega) st
      obtain ⟨x', l, e1⟩ := ih (pre ++ [s]) L (.val s.d) (st ++ [.dead] ++ [.dead] ++ [.dead]) (fun s' q => hs s' (List.mem_cons_of_mem _ q)) (by rw [List.length_append, List.length_singleton]; omega)
      refine ⟨x', [.dead] ++ [.dead] ++ [.dead] ++ l, ?_⟩
      rw [show pre ++ s :: rest = pre ++ [s] ++ rest by simp, show st ++ ([.dead] ++ [.dead] ++ [.dead] ++ l) = st ++ [.dead] ++ [.dead] ++ [.dead] ++ l by simp, List.map_cons, p_forS]
      generalize chn pre = cp at *
      generalize chn (pre ++ [s]) = cq at *
      generalize chn (pre ++ [s] ++ rest) = cr at *
      generalize s.o = so at *
      generalize chn [s] = cs at *
      generalize s.d = sd at *
      simp_arith [m1, i1, ec, ↓g1, a1, e1, List.drop_succ_cons, List.drop_zero]
  rw [e]
  unfold b_law_chain
  have i0 : ∀ st : Store, C "Chain.__init__" [.cell st.length, .tup []] (st ++ [.obj "Chain" [] []]) = .ok .non (st ++ [.obj "Chain" ["held"] [.tup []]]) := fun st => hi [] st (by decide)
  have ec : D.obj "Chain" ["held"] [.tup []] = chn [] := rfl
  obtain ⟨x', l, e1⟩ := lp ss [] (.lst (ss.map Sp.d)) .un (st ++ [.dead]) hs (by simpa using hl)
  rw [List.nil_append] at e1
  generalize ss.map Sp.d = os at *
  generalize chn [] = c0 at *
  generalize chn ss = c1 at *
  simp_arith [i0, ec, e1, List.drop_succ_cons, List.drop_zero, gives_ok, true_and]
  exact ⟨_, (List.append_assoc _ _ _)⟩
/-! ### x in a chain -/
def flI : D → Bool
  | .int _ => true
  | .str _ => true
  | .bl _ => true
  | _ => false
theorem rep_fl {K : PySem.W.Frag} {o : Wo} {v : V} {d e : D} (h1 : Rep K o v d) (h2 : Rep K o v e) (f1 : flI d = true) (f2 : flI e = true) : d = e := by
  cases h1 <;> first | (cases f1; done) | skip
  all_goals cases h2 <;> first | rfl | (cases f2; done)
theorem reps_fl {K : PySem.W.Frag} {o : Wo} : ∀ {vs : List V} {ds es : List D}, Reps K o vs ds → Reps K o vs es → ds.all flI = true → es.all flI = true → ds = es
  | _, _, _, .nil, .nil, _, _ => rfl
  | _, _, _, .cons a b, .cons c d, f1, f2 => by
    rw [List.all_cons, Bool.and_eq_true] at f1 f2
    rw [rep_fl a c f1.1 f2.1, reps_fl b d f1.2 f2.2]
theorem zip_inj : ∀ {ns : List Str} {vs ws : List V}, ns.length = vs.length → ns.length = ws.length → ns.zip vs = ns.zip ws → vs = ws
  | [], [], [], _, _, _ => rfl
  | _ :: ns, v :: vs, w :: ws, h1, h2, h => by
    rw [List.zip_cons_cons, List.zip_cons_cons] at h
    injection h with e1 e2
    injection e1 with _ e1
    rw [e1, zip_inj (Nat.succ.inj h1) (Nat.succ.inj h2) e2]
theorem apart_fl {c : Str} {ns : List Str} {xs ys : List D} (f1 : xs.all flI = true) (f2 : ys.all flI = true) (ne : xs ≠ ys) : Apart (.obj c ns xs) (.obj c ns ys) := fun X pins σ H s o st v I w r1 r2 => by
  cases r1 with
  | obj a1 b1 l1 c1 =>
    cases r2 with
    | obj a2 b2 l2 c2 =>
      rw [a1] at a2
      injection a2 with a2
      injection a2 with _ _ a2
      have e := zip_inj l1 l2 a2
      subst e
      exact ne (reps_fl c1 c2 f1 f2)
def Sp.c : Sp → Str
  | .sh _ _ _ => "Shrink"
  | .gr _ _ _ => "Grow"
  | .cw _ _ _ => "CropWidth"
  | .ch _ _ _ => "CropHeight"
  | .tn _ => "Turn"
  | .ls => "Landscape"
  | .po => "Portrait"
abbrev tabE : List (Str × Str) := opTab ctS ctM "__eq__" 2 isP2
theorem sp_tab (s : Sp) : ((ownNm s.o).bind fun c => (tabE.lookup c).map fun f => (c, f)) = some (s.c, ("Step.__eq__" : Str)) := by
  cases s <;> kernel_rfl
theorem sp_right (s t : Sp) : rightOk ctN s.c t.o = true := by
  cases s <;> cases t <;> kernel_rfl
theorem sp_apart {s t : Sp} (h : s ≠ t) : Apart s.o t.o ∨ clsDiff ctN s.c t.o = true := by
  cases s with
  | sh w h' cv =>
    cases t with
    | sh a b c => exact .inl (apart_fl rfl rfl fun z => h (by injection z with z1 z2; injection z2 with z2 z3; injection z3 with z3 z4; injection z1 with z1; injection z2 with z2; injection z3 with z3; rw [(natZ _ _).mp z1, (natZ _ _).mp z2, z3]))
    | _ => exact .inr (by kernel_rfl)
  | gr w h' cv =>
    cases t with
    | gr a b c => exact .inl (apart_fl rfl rfl fun z => h (by injection z with z1 z2; injection z2 with z2 z3; injection z3 with z3 z4; injection z1 with z1; injection z2 with z2; injection z3 with z3; rw [(natZ _ _).mp z1, (natZ _ _).mp z2, z3]))
    | _ => exact .inr (by kernel_rfl)
  | cw w h' cv =>
    cases t with
    | cw a b c => exact .inl (apart_fl rfl rfl fun z => h (by injection z with z1 z2; injection z2 with z2 z3; injection z3 with z3 z4; injection z1 with z1; injection z2 with z2; injection z3 with z3; rw [(natZ _ _).mp z1, (natZ _ _).mp z2, z3]))
    | _ => exact .inr (by kernel_rfl)
  | ch w h' cv =>
    cases t with
    | ch a b c => exact .inl (apart_fl rfl rfl fun z => h (by injection z with z1 z2; injection z2 with z2 z3; injection z3 with z3 z4; injection z1 with z1; injection z2 with z2; injection z3 with z3; rw [(natZ _ _).mp z1, (natZ _ _).mp z2, z3]))
    | _ => exact .inr (by kernel_rfl)
  | tn n =>
    cases t with
    | tn m => exact .inl (apart_fl rfl rfl fun z => h (by injection z with z1 z2; injection z1 with z1; rw [(natZ _ _).mp z1]))
    | _ => exact .inr (by kernel_rfl)
  | ls =>
    cases t with
    | ls => exact absurd rfl h
    | _ => exact .inr (by kernel_rfl)
  | po =>
    cases t with
    | po => exact absurd rfl h
    | _ => exact .inr (by kernel_rfl)
theorem inT_cons {C : FEnv} {x : D} {s : Sp} {os : List D} {st : Store} {b : Bool} (hr : rightOk ctN s.c x = true) (hc : C "Step.__eq__" [s.o, x] st = .ok (.bl b) st) (ha : b = false → Apart s.o x ∨ clsDiff ctN s.c x = true) :
    inT ctN tabE C x (s.o :: os) st = if b = true then .ok (.bl true) st else inT ctN tabE C x os st := by
  rw [inT]
  rw [sp_tab]
  show (if rightOk ctN s.c x = true then _ else _) = _
  rw [if_pos hr]
  show (match C "Step.__eq__" [s.o, x] st with
      | .ok (.bl true) st' => _
      | .ok (.bl false) st' => _
      | _ => Res.bad) = _
  rw [hc]
  cases b with
  | true => exact if_pos rfl
  | false => exact if_pos (ha rfl)
theorem inT_sp {C : FEnv} (h : IsStEq C) {t : Sp} (ht : t.ok) {st : Store} : ∀ ss : List Sp, (∀ s ∈ ss, s.ok) → inT ctN tabE C t.o (ss.map Sp.o) st = .ok (.bl (decide (t ∈ ss))) st
  | [], _ => rfl
  | s :: ss, hs => by
    rw [List.map_cons, inT_cons (sp_right s t) (h.1 s t st (hs s List.mem_cons_self) ht) fun z => sp_apart (of_decide_eq_false z), inT_sp h ht ss fun s' q => hs s' (List.mem_cons_of_mem _ q)]
    by_cases e : s = t
    · subst e
      rw [if_pos (decide_eq_true rfl), decide_eq_true List.mem_cons_self]
    · rw [if_neg (by simpa using e)]
      congr 3
      simp only [List.mem_cons, eq_iff_iff]
      exact ⟨.inr, fun z => z.resolve_left fun q => e q.symm⟩
/-- no step -/
structure NoSt (x : D) : Prop where
  isi : dIsO ctN [x, .cls "Step"] = some (.bl false)
  right : ∀ s : Sp, rightOk ctN s.c x = true
  ap : ∀ s : Sp, Apart s.o x ∨ clsDiff ctN s.c x = true
theorem inT_no {C : FEnv} (h : IsStEq C) {x : D} (hx : NoSt x) {st : Store} : ∀ ss : List Sp, inT ctN tabE C x (ss.map Sp.o) st = .ok (.bl false) st
  | [] => rfl
  | s :: ss => by
    rw [List.map_cons, inT_cons (b := false) (hx.right s) (h.2 s x st hx.isi) fun _ => hx.ap s]
    exact inT_no h hx ss
theorem sp_nf (s : Sp) : flatD s.o = false := by cases s <;> rfl
theorem oIn_held {C : FEnv} {x : D} {ss : List Sp} {st : Store} {b : Bool} (h : inT ctN tabE C x (ss.map Sp.o) st = .ok (.bl b) st) (h0 : ss = [] → b = false) : oIn false ctN tabE (opTab ctS ctM "__contains__" 2 isP2) dIn C x (.tup (ss.map Sp.o)) st = .ok (.bl b) st := by
  rw [p_oIn]
  have e : dIn x (.tup (ss.map Sp.o)) = if flatD x = true ∧ (ss.map Sp.o).all flatD = true then some (.bl (inD x (ss.map Sp.o))) else none := by
    cases x <;> rfl
  rw [e]
  cases ss with
  | nil =>
    rw [h0 rfl]
    by_cases c : flatD x = true
    · rw [if_pos ⟨c, rfl⟩]
      rfl
    · rw [if_neg fun z => c z.1]
      rfl
  | cons s ss =>
    rw [if_neg (by rw [List.map_cons, List.all_cons, sp_nf]; simp)]
    show (inT ctN tabE C x ((s :: ss).map Sp.o) st).bind (fun v st => tellB false v st) = _
    rw [h]
    cases b <;> rfl
abbrev IsChainC (C : FEnv) : Prop := (∀ (ss : List Sp) (t : Sp) st, (∀ s ∈ ss, s.ok) → t.ok → C "Chain.__contains__" [chn ss, t.o] st = .ok (.bl (decide (t ∈ ss))) st) ∧ ∀ (ss : List Sp) (x : D) st, NoSt x → C "Chain.__contains__" [chn ss, x] st = .ok (.bl false) st
theorem ok_chainC {C C' : FEnv} (e : C' "Chain.__contains__" = body 2 b_Chain___contains__ C) (h : IsStEq C) : IsChainC C' := by
  have main : ∀ (ss : List Sp) (x : D) (b : Bool) st, inT ctN tabE C x (ss.map Sp.o) st = .ok (.bl b) st → (ss = [] → b = false) → C' "Chain.__contains__" [chn ss, x] st = .ok (.bl b) st := fun ss x b st h1 h0 => by
    rw [e]
    unfold b_Chain___contains__
    have q := oIn_held h1 h0
    have ha := fun C st => at_held ss C st
    generalize chn ss = ca at *
    generalize oIn false ctN tabE (opTab ctS ctM "__contains__" 2 isP2) dIn = F at *
    generalize ss.map Sp.o = oa at *
    simp_arith [ha, q]
  refine ⟨fun ss t st hs ht => main ss t.o _ st (inT_sp h ht ss hs) fun z => ?_, fun ss x st hx => main ss x _ st (inT_no h hx ss) fun _ => rfl⟩
  subst z
  rfl
/-! ## steps read from their texts -/
theorem str_ext {x y : Str} (h : x.cps.toList = y.cps.toList) : x = y := by
  cases x
  cases y
  simp only at h
  rw [Array.toList_inj.mp h]
theorem nt_short {n : Nat} (h : Sd n) : (nt n).length ≤ 7 := by
  rw [str_len, nt_cps]
  exact TL.numL_len (by decide) (Nat.lt_of_le_of_lt h.2 (by decide))
theorem nt_some (n : Nat) : 1 ≤ (nt n).length := by
  rw [str_len, nt_cps]
  cases e : TL.numL n with
  | nil => exact absurd e (TL.numL_ne n)
  | cons _ _ => simp
theorem nt_starts {n : Nat} (h : 0 < n) : dStarts (.str (nt n)) (.str "0") = some (.bl false) := by
  obtain ⟨c, r, e, q⟩ := num_head n h
  have ec : (nt n).cps.toList = c :: r := by rw [nt_cps, e]
  have ea : (nt n) = ⟨(c :: r).toArray⟩ := str_ext (by rw [ec])
  show some (D.bl (Txt.startswith (nt n) "0")) = _
  rw [ea]
  have : Txt.startswith (⟨(c :: r).toArray⟩ : Str) ("0" : Str) = false := by
    unfold Txt.startswith
    have : PySem.Builtin.Str.subAt (⟨(c :: r).toArray⟩ : Str) ("0" : Str) 0 = false := by
      unfold PySem.Builtin.Str.subAt
      have l0 : ("0" : Str).length = 1 := by decide +kernel
      have l1 : ("0" : Str).cps = #[48] := by decide +kernel
      rw [l0, l1]
      have : (((c :: r).toArray : Array Nat).extract 0 (0 + 1)) = #[c] := by
        simp
      rw [this]
      simp [q]
    first
      | (rw [this]; simp)
      | simp [this]
  rw [this]
abbrev IsRdSide (C : FEnv) : Prop := ∀ (n : Nat) st, Sd n → C "read_side" [.str (nt n)] st = .ok (.int (n : Nat)) st
theorem ok_rdside {C C' : FEnv} (e : C' "read_side" = body 2 b_read_side C) : IsRdSide C' := fun n st hn => by
  have nb := sd_bits hn
  have n0 : 0 < n := hn.1
  rw [e]
  unfold b_read_side
  rw [keep_all]
  have a1 : ∀ st, eAll [1] (eIter (eVar 0)) (.nm 1) (eBin dIn (eVar 1) (eC (.str "0123456789"))) C [.val (.str (nt n)), .un] st = .ok (.bl true) st := fun st => by
    obtain ⟨d, st', h1, h2, h3⟩ := all_comp (C := C) (r := [.val (.str (nt n)), .un]) (st := st) (vs := [1]) (it := eIter (eVar 0)) (g := .nm 1) (e := eBin dIn (eVar 1) (eC (.str "0123456789"))) (I := fun s => s = st) (J := fun xs => ∀ x ∈ xs, dIn x (.str "0123456789") = some (.bl true)) (by
      walk_at "ev"
      refine ⟨_, _, rfl, ?_, nt_digits n, rfl⟩
      rw [List.length_map, ← str_len]
      have := nt_fits nb
      omega) (by
      intro xs hj x hx st1 hs
      have hd := hj x hx
      simp_arith [wipeR, hd]
      exact ⟨_, _, rfl, rfl, hs⟩)
    subst h2 h3
    exact h1
  have s1 : dStr [.int 1000000] = some (.str "1000000") := by kernel_rfl
  have s2 : dLen [.str "1000000"] = some (.int 7) := by kernel_rfl
  have s3 : dLen [.str (nt n)] = some (.int ((nt n).length : Nat)) := by
    show (if _ then _ else _) = _
    rw [if_pos (by have := nt_fits nb; omega)]
  have c1 : decide ((1 : Int) ≤ ((nt n).length : Nat)) = true := decide_eq_true (by have := nt_some n; omega)
  have c2 : decide ((((nt n).length : Nat) : Int) ≤ 7) = true := decide_eq_true (by have := nt_short hn; omega)
  have c3 : decide ((1000000 : Int) < ((n : Nat) : Int)) = false := decide_eq_false (by have := hn.2; omega)
  have c4 := nt_starts n0
  have v : dInt [.str (nt n)] = some (.int (n : Nat)) := int_nt nb
  generalize (((nt n).length : Nat) : Int) = ln at *
  generalize nt n = x at *
  generalize ((n : Nat) : Int) = k at *
  simp -dsimp -implicitDefEqProofs only [s1, s2, s3, c1, c2, c3, ↓c4, ↓v, a1, ↓p_body, ↓p_sSeq, ↓p_sIf, ↓p_sRet, ↓p_sNil, ↓p_tOr, ↓p_tNt, ↓p_tE, ↓p_eChn, ↓p_eBlt, ↓p_eBinS, ↓p_eBin, ↓p_eVar, ↓p_eC, ↓p_aNil, ↓p_aCons, dLe, dGt, bnd_ok, ↓bnd_ok, lift_some, dTru, Option.map_some, List.map_cons, List.map_nil, List.cons_append, List.nil_append, List.length_cons, List.length_nil, Nat.reduceAdd, Nat.reduceSub, List.replicate, List.getElem?_cons_zero, Bool.not_true, Bool.not_false, Bool.false_eq_true, if_true, if_false, ↓reduceIte]
abbrev IsRdSides (C : FEnv) : Prop := ∀ (w h : Nat) st, Sd w → Sd h → C "read_sides_steps" [.str ((nt w ++ ("x" : Str)) ++ nt h), .str "x"] st = .ok (.lst [.int (w : Nat), .int (h : Nat)]) st ∧ C "read_sides_steps" [.str ((nt w ++ (":" : Str)) ++ nt h), .str ":"] st = .ok (.lst [.int (w : Nat), .int (h : Nat)]) st
theorem split_nt {w h : Nat} (hw : Sd w) (hh : Sd h) {y : Str} {c : Nat} (ey : TL.tl y = [c]) (hk : y.cps.all (· < 256) = true) (hc : ¬ (48 ≤ c ∧ c ≤ 57)) (ly : y.length = 1) : dSplit (.str ((nt w ++ y) ++ nt h)) (.str y) = some (.lst [.str (nt w), .str (nt h)]) := by
  have e := TL.split_join (y := y) (s := c) (S := []) ey hk (parts := [nt w, nt h]) (by simp) (fun z hz => by
    simp only [List.mem_cons, List.not_mem_nil, or_false] at hz
    rcases hz with rfl | rfl
    · exact nt_freeC hc
    · exact nt_freeC hc)
  rw [TL.join_eq] at e
  have e' : Txt.split ((nt w ++ y) ++ nt h) y = [nt w, nt h] := e
  have l1 := nt_short hw
  have l2 := nt_short hh
  show (if _ then _ else _) = _
  rw [if_pos ⟨by rw [ly]; rfl, by rw [app_len, app_len, ly]; have k : 100 ≤ sizeLine := (by rw [sizeLine_eq]; decide); omega⟩, e']
  rfl
theorem none_ints (a b : Int) : dIn .non (.lst [.int a, .int b]) = some (.bl false) := rfl
theorem ok_rdsides {C C' : FEnv} (e : C' "read_sides_steps" = body 5 b_read_sides_steps C) (hr : IsRdSide C) : IsRdSides C' := fun w h st hw hh => by
  have r1 := fun st => hr w st hw
  have r2 := fun st => hr h st hh
  have l2 : ((2 : Nat) < sizeLine) = True := eq_true (Nat.lt_of_lt_of_le (by decide) line_1000)
  have n1 : dLen [.lst [.str (nt w), .str (nt h)]] = some (.int 2) := rfl
  have i1 := none_ints (w : Nat) (h : Nat)
  have q2 : ((2 : Int) == 2) = true := rfl
  rw [e]
  unfold b_read_sides_steps
  refine ⟨?_, ?_⟩
  · have s := split_nt hw hh (y := "x") (c := 120) rfl (by decide +kernel) (by decide) (by decide +kernel)
    generalize (nt w ++ ("x" : Str)) ++ nt h = t at *
    generalize nt w = a at *
    generalize nt h = b at *
    generalize ((w : Nat) : Int) = wi at *
    generalize ((h : Nat) : Int) = hi at *
    simp_arith [s, r1, r2, ↓p_eComp, ↓p_comp0, ↓p_compS, wipeR, l2, n1, i1, q2]
  · have s := split_nt hw hh (y := ":") (c := 58) rfl (by decide +kernel) (by decide) (by decide +kernel)
    generalize (nt w ++ (":" : Str)) ++ nt h = t at *
    generalize nt w = a at *
    generalize nt h = b at *
    generalize ((w : Nat) : Int) = wi at *
    generalize ((h : Nat) : Int) = hi at *
    simp_arith [s, r1, r2, ↓p_eComp, ↓p_comp0, ↓p_compS, wipeR, l2, n1, i1, q2]
/-! ### words -/
def wsx (w h : Nat) : Str := (nt w ++ ("x" : Str)) ++ nt h
def wsc (w h : Nat) : Str := (nt w ++ (":" : Str)) ++ nt h
def Sp.ws : Sp → List Str
  | .sh w h cv => if cv = true then ["shrink", wsx w h, "cover"] else ["shrink", wsx w h]
  | .gr w h cv => if cv = true then ["grow", wsx w h, "cover"] else ["grow", wsx w h]
  | .cw w h k => ["width", wsc w h, k]
  | .ch w h k => ["height", wsc w h, k]
  | .tn n => ["turn", nt n]
  | .ls => ["landscape"]
  | .po => ["portrait"]
theorem cps_lit {x y z : Str} (h : x = y ++ z) : x.cps.toList = y.cps.toList ++ z.cps.toList := by rw [h, app_cps]
theorem emp_cps : ("" : Str).cps.toList = [] := rfl
theorem join2 (y a b : Str) : Str.join y [a, b] = (a ++ y) ++ b := rfl
theorem join3 (y a b c : Str) : Str.join y [a, b, c] = (((a ++ y) ++ b) ++ y) ++ c := (show Str.join y [a, b, c] = (a ++ y) ++ ((b ++ y) ++ c) from rfl).trans (str_ext (by simp only [app_cps, List.append_assoc]))
theorem tx_x (a u v sp x : Str) (w h : Str) : ((((a ++ sp) ++ u) ++ x) ++ v) ++ ("" : Str) = (a ++ sp) ++ ((u ++ x) ++ v) := str_ext (by simp only [app_cps, emp_cps, List.append_assoc, List.append_nil])
theorem tx_xc (a u v sp x c d : Str) (hc : d.cps.toList = sp.cps.toList ++ c.cps.toList) : ((((a ++ sp) ++ u) ++ x) ++ v) ++ d = (((a ++ sp) ++ ((u ++ x) ++ v)) ++ sp) ++ c := str_ext (by simp only [app_cps, hc, List.append_assoc])
theorem tx_c (a u v sp x k : Str) : (((((a ++ sp) ++ u) ++ x) ++ v) ++ sp) ++ k = (((a ++ sp) ++ ((u ++ x) ++ v)) ++ sp) ++ k := str_ext (by simp only [app_cps, List.append_assoc])
theorem tx_t (a sp d u : Str) (hc : d.cps.toList = a.cps.toList ++ sp.cps.toList) : d ++ u = (a ++ sp) ++ u := str_ext (by simp only [app_cps, hc, List.append_assoc])
theorem Sp.tx_ws {s : Sp} : s.tx = Str.join " " s.ws := by
  have c0 : (" cover" : Str).cps.toList = (" " : Str).cps.toList ++ ("cover" : Str).cps.toList := by decide +kernel
  have t0 : ("turn " : Str).cps.toList = ("turn" : Str).cps.toList ++ (" " : Str).cps.toList := by decide +kernel
  cases s with
  | sh w h cv =>
    cases cv
    · exact (tx_x "shrink" (nt w) (nt h) " " "x" "" "").trans (join2 " " "shrink" (wsx w h)).symm
    · exact (tx_xc "shrink" (nt w) (nt h) " " "x" "cover" " cover" c0).trans (join3 " " "shrink" (wsx w h) "cover").symm
  | gr w h cv =>
    cases cv
    · exact (tx_x "grow" (nt w) (nt h) " " "x" "" "").trans (join2 " " "grow" (wsx w h)).symm
    · exact (tx_xc "grow" (nt w) (nt h) " " "x" "cover" " cover" c0).trans (join3 " " "grow" (wsx w h) "cover").symm
  | cw w h k => exact (tx_c "width" (nt w) (nt h) " " ":" k).trans (join3 " " "width" (wsc w h) k).symm
  | ch w h k => exact (tx_c "height" (nt w) (nt h) " " ":" k).trans (join3 " " "height" (wsc w h) k).symm
  | tn n => exact (tx_t "turn" " " "turn " (nt n) t0).trans (join2 " " "turn" (nt n)).symm
  | ls => rfl
  | po => rfl
theorem ws_free {w h c : Nat} {y : Str} (hc : ¬ (48 ≤ c ∧ c ≤ 57)) (hy : c ∉ y.cps.toList) : c ∉ ((nt w ++ y) ++ nt h).cps.toList := by
  rw [app_cps, app_cps]
  intro q
  rcases List.mem_append.mp q with q | q
  · rcases List.mem_append.mp q with q | q
    · exact nt_freeC hc q
    · exact hy q
  · exact nt_freeC hc q
theorem Sp.ws_free {s : Sp} (hs : s.ok) : ∀ p ∈ s.ws, 32 ∉ TL.tl p := by
  have fx : ∀ w h, 32 ∉ (wsx w h).cps.toList := fun w h => DS.ws_free (by decide) (by decide +kernel)
  have fc : ∀ w h, 32 ∉ (wsc w h).cps.toList := fun w h => DS.ws_free (by decide) (by decide +kernel)
  have k1 : (32 : Nat) ∉ ("shrink" : Str).cps.toList := by decide +kernel
  have k2 : (32 : Nat) ∉ ("grow" : Str).cps.toList := by decide +kernel
  have k3 : (32 : Nat) ∉ ("width" : Str).cps.toList := by decide +kernel
  have k4 : (32 : Nat) ∉ ("height" : Str).cps.toList := by decide +kernel
  have k5 : (32 : Nat) ∉ ("turn" : Str).cps.toList := by decide +kernel
  have k6 : (32 : Nat) ∉ ("landscape" : Str).cps.toList := by decide +kernel
  have k7 : (32 : Nat) ∉ ("portrait" : Str).cps.toList := by decide +kernel
  have k8 : (32 : Nat) ∉ ("cover" : Str).cps.toList := by decide +kernel
  have kk : ∀ k : Str, (k = "left" ∨ k = "center" ∨ k = "right") ∨ (k = "top" ∨ k = "center" ∨ k = "bottom") → 32 ∉ k.cps.toList := by
    rintro k ((rfl | rfl | rfl) | (rfl | rfl | rfl)) <;> decide +kernel
  intro p hp
  show 32 ∉ p.cps.toList
  cases s with
  | sh w h cv =>
    cases cv
    · have hp : p ∈ (["shrink", wsx w h] : List Str) := hp
      simp only [List.mem_cons, List.not_mem_nil, or_false] at hp
      rcases hp with rfl | rfl
      · exact k1
      · exact fx w h
    · have hp : p ∈ (["shrink", wsx w h, "cover"] : List Str) := hp
      simp only [List.mem_cons, List.not_mem_nil, or_false] at hp
      rcases hp with rfl | rfl | rfl
      · exact k1
      · exact fx w h
      · exact k8
  | gr w h cv =>
    cases cv
    · have hp : p ∈ (["grow", wsx w h] : List Str) := hp
      simp only [List.mem_cons, List.not_mem_nil, or_false] at hp
      rcases hp with rfl | rfl
      · exact k2
      · exact fx w h
    · have hp : p ∈ (["grow", wsx w h, "cover"] : List Str) := hp
      simp only [List.mem_cons, List.not_mem_nil, or_false] at hp
      rcases hp with rfl | rfl | rfl
      · exact k2
      · exact fx w h
      · exact k8
  | cw w h k =>
    have hp : p ∈ (["width", wsc w h, k] : List Str) := hp
    simp only [List.mem_cons, List.not_mem_nil, or_false] at hp
    rcases hp with rfl | rfl | rfl
    · exact k3
    · exact fc w h
    · exact kk _ (.inl hs.2.2)
  | ch w h k =>
    have hp : p ∈ (["height", wsc w h, k] : List Str) := hp
    simp only [List.mem_cons, List.not_mem_nil, or_false] at hp
    rcases hp with rfl | rfl | rfl
    · exact k4
    · exact fc w h
    · exact kk _ (.inr hs.2.2)
  | tn n =>
    have hp : p ∈ (["turn", nt n] : List Str) := hp
    simp only [List.mem_cons, List.not_mem_nil, or_false] at hp
    rcases hp with rfl | rfl
    · exact k5
    · exact nt_freeC (by decide)
  | ls =>
    have hp : p ∈ [("landscape" : Str)] := hp
    rw [List.mem_singleton.mp hp]
    exact k6
  | po =>
    have hp : p ∈ [("portrait" : Str)] := hp
    rw [List.mem_singleton.mp hp]
    exact k7
theorem Sp.ws_ne (s : Sp) : s.ws ≠ [] := by
  cases s with
  | sh w h cv => cases cv <;> exact List.cons_ne_nil _ _
  | gr w h cv => cases cv <;> exact List.cons_ne_nil _ _
  | _ => exact List.cons_ne_nil _ _
theorem Sp.split {s : Sp} (hs : s.ok) : dSplit (.str s.tx) (.str " ") = some (.lst (s.ws.map .str)) := by
  have e := TL.split_join (y := (" " : Str)) (s := 32) (S := []) rfl (by decide +kernel) (parts := s.ws) s.ws_ne (Sp.ws_free hs)
  rw [TL.join_eq, ← Sp.tx_ws] at e
  have l := Sp.tx_len hs
  show (if _ then _ else _) = _
  rw [if_pos ⟨by decide +kernel, by have k : 3000 ≤ sizeLine := (by rw [sizeLine_eq]; decide); omega⟩, e]
/-! ### read_scaling, read_crop, read_step -/
abbrev IsRdScal (C : FEnv) : Prop := ∀ (w h : Nat) (cv : Bool) st, Sd w → Sd h → C "read_scaling" [.lst ((Sp.sh w h cv).ws.map .str)] st = .ok (Sp.sh w h cv).o (st ++ [.dead]) ∧ C "read_scaling" [.lst ((Sp.gr w h cv).ws.map .str)] st = .ok (Sp.gr w h cv).o (st ++ [.dead])
theorem ok_rdscal {C C' : FEnv} (e : C' "read_scaling" = body 2 b_read_scaling C) (hr : IsRdSides C) (hS : IsScalI "Shrink.__init__" "Shrink" C) (hG : IsScalI "Grow.__init__" "Grow" C) : IsRdScal C' := fun w h cv st hw hh => by
  have r1 : ∀ st, C "read_sides_steps" [.str (wsx w h), .str "x"] st = .ok (.lst [.int (w : Nat), .int (h : Nat)]) st := fun st => (hr w h st hw hh).1
  have d1 : dIs (.lst [.int (w : Nat), .int (h : Nat)]) .non = some (.bl false) := rfl
  have x0 : ∀ a b st, dIx (.lst [a, b]) (.int 0) st = some a := fun _ _ _ => rfl
  have x1 : ∀ a b st, dIx (.lst [a, b]) (.int 1) st = some b := fun _ _ _ => rfl
  have y0 : ∀ a b c st, dIx (.lst [a, b, c]) (.int 0) st = some a := fun _ _ _ _ => rfl
  have y1 : ∀ a b c st, dIx (.lst [a, b, c]) (.int 1) st = some b := fun _ _ _ _ => rfl
  have y2 : ∀ a b c st, dIx (.lst [a, b, c]) (.int 2) st = some c := fun _ _ _ _ => rfl
  have n2 : ∀ a b, dLen [.lst [a, b]] = some (.int 2) := fun _ _ => rfl
  have n3 : ∀ a b c, dLen [.lst [a, b, c]] = some (.int 3) := fun _ _ _ => rfl
  have g2 : dGt (.int 2) (.int 2) = some (.bl false) := rfl
  have g3 : dGt (.int 3) (.int 2) = some (.bl true) := rfl
  have e1 : dNe (.str "cover") (.str "cover") = some (.bl false) := by kernel_rfl
  have e2 : dEq (.str "shrink") (.str "shrink") = some (.bl true) := by kernel_rfl
  have e3 : dEq (.str "grow") (.str "shrink") = some (.bl false) := by kernel_rfl
  have iS := fun cv => hS w h cv st hw hh
  have iG := fun cv => hG w h cv st hw hh
  have oS : (Sp.sh w h cv).o = .obj "Shrink" ["width", "height", "cover"] [.int (w : Nat), .int (h : Nat), .bl cv] := rfl
  have oG : (Sp.gr w h cv).o = .obj "Grow" ["width", "height", "cover"] [.int (w : Nat), .int (h : Nat), .bl cv] := rfl
  rw [e, oS, oG]
  unfold b_read_scaling
  refine ⟨?_, ?_⟩
  · cases cv
    · show body 2 _ C [.lst [.str "shrink", .str (wsx w h)]] st = _
      have iS := iS false
      generalize wsx w h = t at *
      generalize ((w : Nat) : Int) = wi at *
      generalize ((h : Nat) : Int) = hi at *
      simp_arith [r1, d1, x0, x1, n2, ↓g2, ↓e2, iS]
    · show body 2 _ C [.lst [.str "shrink", .str (wsx w h), .str "cover"]] st = _
      have iS := iS true
      generalize wsx w h = t at *
      generalize ((w : Nat) : Int) = wi at *
      generalize ((h : Nat) : Int) = hi at *
      simp_arith [r1, d1, x0, x1, y0, y1, y2, n3, ↓g3, ↓e1, ↓e2, iS]
  · cases cv
    · show body 2 _ C [.lst [.str "grow", .str (wsx w h)]] st = _
      have iG := iG false
      generalize wsx w h = t at *
      generalize ((w : Nat) : Int) = wi at *
      generalize ((h : Nat) : Int) = hi at *
      simp_arith [r1, d1, x0, x1, n2, ↓g2, ↓e3, iG]
    · show body 2 _ C [.lst [.str "grow", .str (wsx w h), .str "cover"]] st = _
      have iG := iG true
      generalize wsx w h = t at *
      generalize ((w : Nat) : Int) = wi at *
      generalize ((h : Nat) : Int) = hi at *
      simp_arith [r1, d1, x0, x1, y0, y1, y2, n3, ↓g3, ↓e1, ↓e3, iG]
abbrev IsRdCrop (C : FEnv) : Prop := ∀ (w h : Nat) (k : Str) st, Sd w → Sd h → ((k = "left" ∨ k = "center" ∨ k = "right") → C "read_crop" [.lst ((Sp.cw w h k).ws.map .str)] st = .ok (Sp.cw w h k).o (st ++ [.dead])) ∧ ((k = "top" ∨ k = "center" ∨ k = "bottom") → C "read_crop" [.lst ((Sp.ch w h k).ws.map .str)] st = .ok (Sp.ch w h k).o (st ++ [.dead]))
theorem ok_rdcrop {C C' : FEnv} (e : C' "read_crop" = body 2 b_read_crop C) (hr : IsRdSides C) (hW : IsCropI "CropWidth.__init__" "CropWidth" C) (hH : IsCropI "CropHeight.__init__" "CropHeight" C) : IsRdCrop C' := fun w h k st hw hh => by
  have r1 : ∀ st, C "read_sides_steps" [.str (wsc w h), .str ":"] st = .ok (.lst [.int (w : Nat), .int (h : Nat)]) st := fun st => (hr w h st hw hh).2
  have d1 : dIs (.lst [.int (w : Nat), .int (h : Nat)]) .non = some (.bl false) := rfl
  have x0 : ∀ a b st, dIx (.lst [a, b]) (.int 0) st = some a := fun _ _ _ => rfl
  have x1 : ∀ a b st, dIx (.lst [a, b]) (.int 1) st = some b := fun _ _ _ => rfl
  have y0 : ∀ a b c st, dIx (.lst [a, b, c]) (.int 0) st = some a := fun _ _ _ _ => rfl
  have y1 : ∀ a b c st, dIx (.lst [a, b, c]) (.int 1) st = some b := fun _ _ _ _ => rfl
  have y2 : ∀ a b c st, dIx (.lst [a, b, c]) (.int 2) st = some c := fun _ _ _ _ => rfl
  have e2 : dEq (.str "width") (.str "width") = some (.bl true) := by kernel_rfl
  have e3 : dEq (.str "height") (.str "width") = some (.bl false) := by kernel_rfl
  have k1 : dKey [("width", D.tup [.str "left", .str "center", .str "right"]), ("height", .tup [.str "top", .str "center", .str "bottom"])] (.str "width") = some (.tup [.str "left", .str "center", .str "right"]) := by kernel_rfl
  have k2 : dKey [("width", D.tup [.str "left", .str "center", .str "right"]), ("height", .tup [.str "top", .str "center", .str "bottom"])] (.str "height") = some (.tup [.str "top", .str "center", .str "bottom"]) := by kernel_rfl
  have oW : (Sp.cw w h k).o = .obj "CropWidth" ["width", "height", "keep"] [.int (w : Nat), .int (h : Nat), .str k] := rfl
  have oH : (Sp.ch w h k).o = .obj "CropHeight" ["width", "height", "keep"] [.int (w : Nat), .int (h : Nat), .str k] := rfl
  rw [e, oW, oH]
  unfold b_read_crop
  refine ⟨fun hk => ?_, fun hk => ?_⟩
  · show body 2 _ C [.lst [.str "width", .str (wsc w h), .str k]] st = _
    have iW := hW w h k st hw hh (.inl ⟨rfl, hk⟩)
    have m1 : dNotIn (.str k) (.tup [.str "left", .str "center", .str "right"]) = some (.bl false) := by rcases hk with rfl | rfl | rfl <;> kernel_rfl
    clear hk
    generalize wsc w h = t at *
    generalize ((w : Nat) : Int) = wi at *
    generalize ((h : Nat) : Int) = hi at *
    simp_arith [r1, d1, x0, x1, y0, y1, y2, ↓k1, ↓m1, ↓e2, iW]
  · show body 2 _ C [.lst [.str "height", .str (wsc w h), .str k]] st = _
    have iH := hH w h k st hw hh (.inr ⟨rfl, hk⟩)
    have m1 : dNotIn (.str k) (.tup [.str "top", .str "center", .str "bottom"]) = some (.bl false) := by rcases hk with rfl | rfl | rfl <;> kernel_rfl
    clear hk
    generalize wsc w h = t at *
    generalize ((w : Nat) : Int) = wi at *
    generalize ((h : Nat) : Int) = hi at *
    simp_arith [r1, d1, x0, x1, y0, y1, y2, ↓k2, ↓m1, ↓e3, iH]
abbrev IsRdStep (C : FEnv) : Prop := ∀ (s : Sp) st, s.ok → C "read_step" [.str s.tx] st = .ok s.o (st ++ [.dead])
theorem ok_rdstep {C C' : FEnv} (e : C' "read_step" = body 2 b_read_step C) (h1 : IsRdScal C) (h2 : IsRdCrop C) (hT : IsTurnI C) : IsRdStep C' := fun s st hs => by
  have t1 : ∀ k : Str, dIsO ctN [.str k, .ty "str"] = some (.bl true) := fun k => by kernel_rfl
  have sp := Sp.split hs
  have x0 : ∀ a b st, dIx (.lst [a, b]) (.int 0) st = some a := fun _ _ _ => rfl
  have x1 : ∀ a b st, dIx (.lst [a, b]) (.int 1) st = some b := fun _ _ _ => rfl
  have y0 : ∀ a b c st, dIx (.lst [a, b, c]) (.int 0) st = some a := fun _ _ _ _ => rfl
  have z0 : ∀ a st, dIx (.lst [a]) (.int 0) st = some a := fun _ _ => rfl
  have n1 : ∀ a, dLen [.lst [a]] = some (.int 1) := fun _ => rfl
  have n2 : ∀ a b, dLen [.lst [a, b]] = some (.int 2) := fun _ _ => rfl
  have n3 : ∀ a b c, dLen [.lst [a, b, c]] = some (.int 3) := fun _ _ _ => rfl
  have q2 : ((2 : Int) == 2) = true := rfl
  have q3 : ((3 : Int) == 3) = true := rfl
  have l22 : decide ((2 : Int) ≤ 2) = true := rfl
  have l23 : decide ((2 : Int) ≤ 3) = true := rfl
  have l33 : decide ((3 : Int) ≤ 3) = true := rfl
  have j1 : dIn (.str "shrink") (.tup [.str "shrink", .str "grow"]) = some (.bl true) := by kernel_rfl
  have j2 : dIn (.str "grow") (.tup [.str "shrink", .str "grow"]) = some (.bl true) := by kernel_rfl
  have j3 : dIn (.str "width") (.tup [.str "shrink", .str "grow"]) = some (.bl false) := by kernel_rfl
  have j4 : dIn (.str "height") (.tup [.str "shrink", .str "grow"]) = some (.bl false) := by kernel_rfl
  have j5 : dIn (.str "turn") (.tup [.str "shrink", .str "grow"]) = some (.bl false) := by kernel_rfl
  have j6 : dIn (.str "landscape") (.tup [.str "shrink", .str "grow"]) = some (.bl false) := by kernel_rfl
  have j7 : dIn (.str "portrait") (.tup [.str "shrink", .str "grow"]) = some (.bl false) := by kernel_rfl
  have k3 : dHas [("width", D.tup [.str "left", .str "center", .str "right"]), ("height", .tup [.str "top", .str "center", .str "bottom"])] false (.str "width") = some (.bl true) := by kernel_rfl
  have k4 : dHas [("width", D.tup [.str "left", .str "center", .str "right"]), ("height", .tup [.str "top", .str "center", .str "bottom"])] false (.str "height") = some (.bl true) := by kernel_rfl
  have k5 : dHas [("width", D.tup [.str "left", .str "center", .str "right"]), ("height", .tup [.str "top", .str "center", .str "bottom"])] false (.str "turn") = some (.bl false) := by kernel_rfl
  have k6 : dHas [("width", D.tup [.str "left", .str "center", .str "right"]), ("height", .tup [.str "top", .str "center", .str "bottom"])] false (.str "landscape") = some (.bl false) := by kernel_rfl
  have k7 : dHas [("width", D.tup [.str "left", .str "center", .str "right"]), ("height", .tup [.str "top", .str "center", .str "bottom"])] false (.str "portrait") = some (.bl false) := by kernel_rfl
  have m5 : dEq (.str "turn") (.str "turn") = some (.bl true) := by kernel_rfl
  have m6 : dEq (.str "landscape") (.str "turn") = some (.bl false) := by kernel_rfl
  have m7 : dEq (.str "portrait") (.str "turn") = some (.bl false) := by kernel_rfl
  have a6 : dEq (.str "landscape") (.str "landscape") = some (.bl true) := by kernel_rfl
  have a7 : dEq (.str "portrait") (.str "landscape") = some (.bl false) := by kernel_rfl
  have b7 : dEq (.str "portrait") (.str "portrait") = some (.bl true) := by kernel_rfl
  rw [e]
  unfold b_read_step
  cases s with
  | sh w h cv =>
    have r := (h1 w h cv st hs.1 hs.2).1
    generalize (Sp.sh w h cv).tx = t at *
    generalize (Sp.sh w h cv).o = o at *
    cases cv
    · have sp : dSplit (.str t) (.str " ") = some (.lst [.str "shrink", .str (wsx w h)]) := sp
      have r : C "read_scaling" [.lst [.str "shrink", .str (wsx w h)]] st = .ok o (st ++ [.dead]) := r
      generalize wsx w h = u at *
      simp_arith [t1, sp, x0, n2, ↓j1, l22, l23, r]
    · have sp : dSplit (.str t) (.str " ") = some (.lst [.str "shrink", .str (wsx w h), .str "cover"]) := sp
      have r : C "read_scaling" [.lst [.str "shrink", .str (wsx w h), .str "cover"]] st = .ok o (st ++ [.dead]) := r
      generalize wsx w h = u at *
      simp_arith [t1, sp, y0, n3, ↓j1, l23, l33, r]
  | gr w h cv =>
    have r := (h1 w h cv st hs.1 hs.2).2
    generalize (Sp.gr w h cv).tx = t at *
    generalize (Sp.gr w h cv).o = o at *
    cases cv
    · have sp : dSplit (.str t) (.str " ") = some (.lst [.str "grow", .str (wsx w h)]) := sp
      have r : C "read_scaling" [.lst [.str "grow", .str (wsx w h)]] st = .ok o (st ++ [.dead]) := r
      generalize wsx w h = u at *
      simp_arith [t1, sp, x0, n2, ↓j2, l22, l23, r]
    · have sp : dSplit (.str t) (.str " ") = some (.lst [.str "grow", .str (wsx w h), .str "cover"]) := sp
      have r : C "read_scaling" [.lst [.str "grow", .str (wsx w h), .str "cover"]] st = .ok o (st ++ [.dead]) := r
      generalize wsx w h = u at *
      simp_arith [t1, sp, y0, n3, ↓j2, l23, l33, r]
  | cw w h k =>
    have r : C "read_crop" [.lst [.str "width", .str (wsc w h), .str k]] st = .ok (Sp.cw w h k).o (st ++ [.dead]) := (h2 w h k st hs.1 hs.2.1).1 hs.2.2
    have sp : dSplit (.str (Sp.cw w h k).tx) (.str " ") = some (.lst [.str "width", .str (wsc w h), .str k]) := sp
    generalize (Sp.cw w h k).tx = t at *
    generalize (Sp.cw w h k).o = o at *
    generalize wsc w h = u at *
    simp_arith [t1, sp, y0, n3, ↓j3, ↓k3, q3, r]
  | ch w h k =>
    have r : C "read_crop" [.lst [.str "height", .str (wsc w h), .str k]] st = .ok (Sp.ch w h k).o (st ++ [.dead]) := (h2 w h k st hs.1 hs.2.1).2 hs.2.2
    have sp : dSplit (.str (Sp.ch w h k).tx) (.str " ") = some (.lst [.str "height", .str (wsc w h), .str k]) := sp
    generalize (Sp.ch w h k).tx = t at *
    generalize (Sp.ch w h k).o = o at *
    generalize wsc w h = u at *
    simp_arith [t1, sp, y0, n3, ↓j4, ↓k4, q3, r]
  | tn n =>
    have n1' : (1 : Int) ≤ (n : Nat) := by rcases hs with rfl | rfl | rfl <;> decide
    have n3' : ((n : Nat) : Int) ≤ 3 := by rcases hs with rfl | rfl | rfl <;> decide
    have r := hT (n : Nat) st n1' n3'
    have sp : dSplit (.str (Sp.tn n).tx) (.str " ") = some (.lst [.str "turn", .str (nt n)]) := sp
    have i1 : dIn (.str (nt n)) (.tup [.str "1", .str "2", .str "3"]) = some (.bl true) := by rcases hs with rfl | rfl | rfl <;> kernel_rfl
    have i2 : dInt [.str (nt n)] = some (.int (n : Nat)) := int_nt (Nat.lt_of_le_of_lt (show n ≤ 3 by rcases hs with rfl | rfl | rfl <;> decide) (by decide +kernel))
    have ho : (Sp.tn n).o = .obj "Turn" ["times"] [.int (n : Nat)] := rfl
    rw [ho]
    generalize (Sp.tn n).tx = t at *
    generalize nt n = u at *
    clear hs n1' n3'
    generalize ((n : Nat) : Int) = ni at *
    simp_arith [t1, sp, x0, x1, n2, ↓j5, ↓k5, ↓m5, q2, ↓i1, ↓i2, r]
  | ls =>
    have sp : dSplit (.str "landscape") (.str " ") = some (.lst [.str "landscape"]) := sp
    show body 2 _ C [.str "landscape"] st = .ok (st0 "Landscape") (st ++ [.dead])
    simp_arith [t1, sp, z0, n1, ↓j6, ↓k6, ↓m6, ↓a6]
    rfl
  | po =>
    have sp : dSplit (.str "portrait") (.str " ") = some (.lst [.str "portrait"]) := sp
    show body 2 _ C [.str "portrait"] st = .ok (st0 "Portrait") (st ++ [.dead])
    simp_arith [t1, sp, z0, n1, ↓j7, ↓k7, ↓m7, ↓a7, ↓b7]
    rfl
/-! ## few drawn steps -/
theorem sps_of : ∀ zs : List D, (∀ y ∈ zs, ∃ s : Sp, y = s.d ∧ s.ok) → ∃ ss : List Sp, zs = ss.map Sp.d ∧ ss.length = zs.length ∧ ∀ s ∈ ss, s.ok
  | [], _ => ⟨[], rfl, rfl, by simp⟩
  | z :: zs, h => by
    obtain ⟨s, rfl, hs⟩ := h z List.mem_cons_self
    obtain ⟨ss, rfl, hl, hz⟩ := sps_of zs fun y q => h y (List.mem_cons_of_mem _ q)
    refine ⟨s :: ss, rfl, by simp, fun t ht => ?_⟩
    rcases List.mem_cons.mp ht with rfl | ht
    · exact hs
    · exact hz t ht
abbrev IsFew (C : FEnv) : Prop := ∀ (p : Nat) (m : Int) (g : Bool) st, PoolAt p st → 0 ≤ m → m < 900 → Gives (C "_law_few" [.cell p, .int m, .bl g] st) fun d st' => ∃ ss : List Sp, d = .lst (ss.map Sp.d) ∧ (∀ s ∈ ss, s.ok) ∧ (ss.length : Int) ≤ m ∧ PoolAt p st'
theorem ok_few {C C' : FEnv} (e : C' "_law_few" = body 4 b_law_few C) (hd : IsDraw C) (hw : IsDrawn C) : IsFew C' := fun p m g st hp h0 h1 => by
  rw [e]
  unfold b_law_few
  simp_arith [↓p_eComp]
  refine Gives.bind (hd p (m + 1) st hp (by omega) (Nat.lt_of_lt_of_le (Nat.lt_of_le_of_lt (Nat.log2_le_self _) (show (m + 1).natAbs < 1000 by omega)) (by decide))) ?_
  rintro _ st2 ⟨k, rfl, k0, k1, hp2⟩
  have hk := dRng_one (j := k) k0 (by omega)
  have hl : (rng 0 k).length < sizeLine := by
    rw [rng_len]
    exact Nat.lt_of_lt_of_le (by omega) line_1000
  simp_arith [hk, hl, wipeR]
  refine Gives.bind (compGo_inv (I := fun st' => PoolAt p st') (P := fun y => ∃ s : Sp, y = s.d ∧ s.ok) (rng 0 k) [] st2 ?_ hp2) ?_
  · intro y hy st3 hp3
    walk_at "ev"
    exact Gives.mono (hw p g st3 hp3) fun y st4 ⟨s, e, q0, hp4⟩ => ⟨⟨s, e, q0⟩, hp4⟩
  · rintro ys st3 ⟨⟨zs, ez, zl, hz⟩, hp3⟩
    rw [List.nil_append] at ez
    subst ez
    obtain ⟨ss, rfl, sl, hs⟩ := sps_of ys hz
    walk_at "ev"
    refine ⟨_, _, rfl, ss, rfl, hs, ?_, hp3⟩
    rw [sl, zl, rng_len]
    omega
theorem all_cells3 {C : FEnv} (hc : IsCell C) (hq : IsPool C) (hr : IsRight C) {ns : List Int} (hn : ns.length ≤ 63) {r : REnv} {st : Store} {b : Int} {i : Nat} {ln : SE} (hln : ln C r st = .ok (.int (ns.length : Nat)) st) (h0 : r[0]? = some (.val (.scr ns))) (b0 : 2 ≤ b) (b1 : b < 100) (hi : 0 < i) (hl : i < r.length) :
    Gives (eAll [i] (eRng (aCons (eBlt dMax (aCons (eC (.int 2)) (aCons (eBlt dMin (aCons (eC (.int b)) (aCons ln aNil))) aNil))) aNil)) (.nm i) (eCallK "_law_right" [.pos 0] (aCons (eCallK "_law_pool" [.pos 0] (aCons (eCallK "_law_cell" [.pos 0, .pos 1] (aCons (eVar 0) (aCons (eVar i) aNil)) aNil) aNil) aNil) aNil) aNil) C r st) fun d _ => d = .bl true := by
  have h := all_cells2 hc hq hr hn (r := r) (st := st) (b := b) (i := i) h0 b0 b1 hi hl
  have v0 : eVar 0 C r st = .ok (.scr ns) st := ev_Var h0
  unfold eAll eBlt aCons eComp eRng at h ⊢
  simp only [eBlt, aCons, aNil, eC, v0, hln, bind_ok, dLen, lift_some] at h ⊢
  exact h
/-! ## len, times, steps -/
abbrev IsChainN (C : FEnv) : Prop := ∀ (ss : List Sp) st, C "Chain.__len__" [chn ss] st = .ok (.int (ss.length : Nat)) st
theorem ok_chainN {C C' : FEnv} (e : C' "Chain.__len__" = body 1 b_Chain___len__ C) : IsChainN C' := fun ss st => by
  rw [e]
  unfold b_Chain___len__
  have ha := fun C st => at_held ss C st
  have la : dLen [.tup (ss.map Sp.o)] = some (.int (ss.length : Nat)) := by
    show some (D.int (((ss.map Sp.o).length : Nat) : Int)) = _
    rw [List.length_map]
  generalize chn ss = ca at *
  generalize ss.map Sp.o = os at *
  simp_arith [ha, la]
theorem len_chn {C : FEnv} (h : IsChainN C) {ss : List Sp} (hl : ss.length ≤ 60) (st : Store) : oLenN (opTab ctS ctM "__len__" 1 isP1) C [chn ss] st = .ok (.int (ss.length : Nat)) st := by
  have e : oLenN (opTab ctS ctM "__len__" 1 isP1) C [chn ss] st = (C "Chain.__len__" [chn ss] st).bind fun v st => tellN v st := by kernel_rfl
  rw [e, h ss st]
  rw [bind_ok]
  have c1 : (0 : Int) ≤ (ss.length : Nat) := by omega
  have c2 : ((ss.length : Nat) : Int) < 2 ^ 62 := by omega
  generalize ((ss.length : Nat) : Int) = k at *
  unfold tellN
  simp only [c1, c2, and_self, if_true]
abbrev IsSteps (C : FEnv) : Prop := ∀ (ss : List Sp) st, C "Chain.steps" [chn ss] st = .ok (.tup (ss.map Sp.o)) st
theorem ok_steps {C C' : FEnv} (e : C' "Chain.steps" = body 1 b_Chain_steps C) : IsSteps C' := fun ss st => by
  rw [e]
  unfold b_Chain_steps
  have ha := fun C st => at_held ss C st
  generalize chn ss = ca at *
  simp_arith [ha]
/-! ### chain * times -/
def reps (k : Nat) (ss : List Sp) : List Sp := (List.replicate k ss).flatten
theorem reps_len (k : Nat) (ss : List Sp) : (reps k ss).length = k * ss.length := by
  unfold reps
  simp
theorem reps_map (k : Nat) (ss : List Sp) : (reps k ss).map Sp.o = (List.replicate k (ss.map Sp.o)).flatten := by
  unfold reps
  rw [List.map_flatten, List.map_replicate]
theorem reps_nil (k : Nat) : reps k [] = [] := by
  unfold reps
  simp
/-! ### exact comprehensions -/
theorem compGo_map {C : FEnv} {g : Tg} {e : SE} {r : REnv} {I : Store → Prop} {α : Type} {f h : α → D} : ∀ (as : List α) (acc : List D) (st : Store),
    (∀ a ∈ as, ∀ st, I st → Gives ((lift (bindT g (f a) r) st).bind fun r st => e C r st) fun y st' => y = h a ∧ I st') → I st → Gives (compGo g tYs e C r (as.map f) acc st) fun ys st' => ys = acc ++ as.map h ∧ I st'
  | [], acc, st, _, hi => ⟨_, _, rfl, by simp, hi⟩
  | a :: as, acc, st, k, hi => by
    obtain ⟨y, st1, e1, hy, hi1⟩ := k a List.mem_cons_self st hi
    rw [List.map_cons]
    unfold compGo
    cases eb : bindT g (f a) r with
    | none => rw [eb] at e1; cases e1
    | some r2 =>
      rw [eb] at e1
      simp only [lift_some, bind_ok, tYs, if_true, noX_ok] at e1 ⊢
      rw [e1, noX_ok]
      obtain ⟨ys, st2, e2, hz, h2⟩ := compGo_map as (acc ++ [y]) st1 (fun b hb => k b (List.mem_cons_of_mem _ hb)) hi1
      exact ⟨_, _, e2, by rw [hz, hy]; simp, h2⟩
/-! ### texts of chains -/
def jn (ss : List Sp) : Str := Txt.join ", " (ss.map Sp.tx)
theorem strsD_tx : ∀ ss : List Sp, strsD (ss.map fun s => .str s.tx) = some (ss.map Sp.tx)
  | [] => rfl
  | s :: ss => by
    show (strsD (ss.map fun s => .str s.tx)).map (s.tx :: ·) = _
    rw [strsD_tx ss]
    rfl
theorem sum_tx : ∀ {ss : List Sp}, (∀ s ∈ ss, s.ok) → ((ss.map Sp.tx).map (·.length)).sum ≤ 1400 * ss.length
  | [], _ => by simp
  | s :: ss, h => by
    have a := Sp.tx_len (h s List.mem_cons_self)
    have b := sum_tx (ss := ss) fun t q => h t (List.mem_cons_of_mem _ q)
    simp only [List.map_cons, List.sum_cons, List.length_cons]
    omega
theorem join_tx {ss : List Sp} (h : ∀ s ∈ ss, s.ok) (hl : ss.length ≤ 60) : dJoin (.str ", ") (.lst (ss.map fun s => .str s.tx)) = some (.str (jn ss)) := by
  show (strsD (ss.map fun s => D.str s.tx)).bind _ = _
  rw [strsD_tx]
  show (if _ then _ else _) = _
  have a := sum_tx h
  have b : (", " : Str).length = 2 := by decide +kernel
  rw [if_pos (by rw [List.length_map, b]; omega)]
  rfl
abbrev IsChainS (C : FEnv) : Prop := ∀ (ss : List Sp) (st : Store), (∀ s ∈ ss, s.ok) → ss.length ≤ 60 → C "Chain.__str__" [chn ss] st = .ok (.str (jn ss)) st
theorem len_line {α : Type} {f : α → D} {ss : List α} (hl : ss.length ≤ 900) : ((ss.map f).length < sizeLine) = True := eq_true (by rw [List.length_map]; exact Nat.lt_of_lt_of_le (by omega) line_1000)
theorem st_txt {C : FEnv} (hss : IsStStr C) {s : Sp} (so : s.ok) (st : Store) : oTextN (opTab ctS ctM "__str__" 1 isP1) C [s.o] st = .ok (.str s.tx) st := by
  have e : oTextN (opTab ctS ctM "__str__" 1 isP1) C [s.o] st = (C "Step.__str__" [s.o] st).bind fun v st => tellS v st := by cases s <;> kernel_rfl
  rw [e, hss s st so]
  rfl
theorem ok_chainS {C C' : FEnv} (e : C' "Chain.__str__" = body 2 b_Chain___str__ C) (hss : IsStStr C) : IsChainS C' := fun ss st hs hl => by
  rw [e]
  unfold b_Chain___str__
  have ha := fun C st => at_held ss C st
  have k1 := len_line (f := Sp.o) (ss := ss) (by omega)
  have j1 := join_tx hs hl
  obtain ⟨ys, st2, e2, ey, es⟩ := compGo_map (C := C) (g := .nm 1) (e := eBltC (oText (opTab ctS ctM "__str__" 1 isP1) dStr) (aCons (eVar 1) aNil)) (r := [.val (chn ss), .un]) (I := fun st' => st' = st) (f := Sp.o) (h := fun s => .str s.tx) ss [] st
    (fun s hm st' hi => by
      subst hi
      have u1 : dStr [s.o] = none := by cases s <;> rfl
      have u2 := fun st => st_txt hss (hs s hm) st
      generalize s.o = o1 at *
      generalize s.tx = t1 at *
      generalize chn ss = cs at *
      simp_arith [↓u1, u2]
      exact ⟨_, _, rfl, rfl, rfl⟩) rfl
  rw [List.nil_append] at ey
  subst ey
  subst es
  generalize chn ss = cs at *
  generalize ss.map Sp.o = os at *
  generalize (ss.map fun s => D.str s.tx) = ts at *
  simp_arith [ha, ↓p_eComp, k1, wipeR, e2, ↓j1]
abbrev IsSaid (C : FEnv) : Prop := ∀ (ss : List Sp) (st : Store), (∀ s ∈ ss, s.ok) → ss.length ≤ 60 → C "_law_said" [.lst (ss.map Sp.d)] st = .ok (.str (jn ss)) st
theorem ok_said {C C' : FEnv} (e : C' "_law_said" = body 2 b_law_said C) (hsh : IsShowS C) : IsSaid C' := fun ss st hs hl => by
  rw [e]
  unfold b_law_said
  have k1 := len_line (f := Sp.d) (ss := ss) (by omega)
  have j1 := join_tx hs hl
  obtain ⟨ys, st2, e2, ey, es⟩ := compGo_map (C := C) (g := .nm 1) (e := eCallK "_law_shown" [.pos 0] (aCons (eVar 1) aNil) aNil) (r := [.val (.lst (ss.map Sp.d)), .un]) (I := fun st' => st' = st) (f := Sp.d) (h := fun s => .str s.tx) ss [] st
    (fun s hm st' hi => by
      subst hi
      have u2 := fun st => hsh s st (hs s hm)
      generalize s.d = o1 at *
      generalize s.tx = t1 at *
      generalize ss.map Sp.d = cs at *
      simp_arith [u2]
      exact ⟨_, _, rfl, rfl, rfl⟩) rfl
  rw [List.nil_append] at ey
  subst ey
  subst es
  generalize ss.map Sp.d = os at *
  generalize (ss.map fun s => D.str s.tx) = ts at *
  simp_arith [↓p_eComp, k1, wipeR, e2, ↓j1]
/-! ### _law_is -/
theorem at_steps {C : FEnv} (h : IsSteps C) (ss : List Sp) (st : Store) : attrD C "steps" (attrTab ctA "steps") (chn ss) st = .ok (.tup (ss.map Sp.o)) st := by
  have e : attrD C "steps" (attrTab ctA "steps") (chn ss) st = noX (C "Chain.steps" [chn ss] st) := by kernel_rfl
  rw [e, h ss st]
  rfl
theorem chn_txt {C : FEnv} (hc : IsChainS C) {ss : List Sp} (hs : ∀ s ∈ ss, s.ok) (hl : ss.length ≤ 60) (st : Store) : oTextN (opTab ctS ctM "__str__" 1 isP1) C [chn ss] st = .ok (.str (jn ss)) st := by
  have e : oTextN (opTab ctS ctM "__str__" 1 isP1) C [chn ss] st = (C "Chain.__str__" [chn ss] st).bind fun v st => tellS v st := by kernel_rfl
  rw [e, hc ss st hs hl]
  rfl
end DS
namespace DS
open PySem L2 PyProof.Rows
local macro_rules | `(tactic| walk_at "ev") => `(tactic| first | simp -dsimp -implicitDefEqProofs only [↓p_body, ↓p_sNil, ↓p_sSeq, ↓p_sAsg, ↓p_sPar, ↓p_sExp, ↓p_sRet, ↓p_sIf, ↓p_sFor, ↓p_for0, ↓p_forS, ↓p_sBrk, ↓p_sCnt, ↓p_sBad, ↓p_sOwn, ↓p_sApp, ↓p_sFrz, ↓p_eVar, ↓p_eC, ↓p_eUn, ↓p_eBin, ↓p_aNil, ↓p_aCons, ↓p_eTup, ↓p_eLst, ↓p_eCell, ↓p_eCallK, ↓p_eBlt, ↓p_tE, ↓p_tNt, ↓p_tAn, ↓p_tOr, ↓p_tYs, ↓p_eIf, ↓p_eAn, ↓p_eOr, ↓p_eNt, ↓p_eIxx, ↓p_oNone, ↓p_oSome, ↓p_eSll, ↓p_eChn, ↓p_eIter, ↓p_eRng, ↓p_gTg, ↓p_gTp1, ↓p_gTp2, ↓p_gTp3, ↓p_gTp4, ↓p_gTp5, ↓p_gTp6, ↓p_gTp7, ↓p_gMany0, ↓p_gManyS, ↓p_gCell, ↓p_eAttr, ↓p_eMeth, ↓p_eMake, ↓p_gFld, ↓p_tIf, ↓p_eJs, ↓p_js0, ↓p_jsS, ↓p_eBinC, ↓p_eBltC, ↓p_eMake0, ↓p_oMul, ↓p_oEq, ↓p_oIn, ↓p_oText, ↓p_eSlO, ↓p_sOwnA, ↓p_eBinS, ↓p_oAdd, ↓p_oIx, ↓p_aStar, ↓p_eMakeS, ↓p_eEnum, ↓p_oLen, ↓p_eZip, ↓p_eMakeVS, ↓p_eTupS, ↓p_eLstS, ↓p_oBool, ↓p_eLz, ↓bnd_ok, bnd_ok, ↓bnd_exc, bnd_exc, noX_ok, ↓bind_ok, ↓to_bnd, lift_some, bnd_bnd, ↓reduceIte, bindT, bindTs, dIter, dEnum, dSeq, dTru, pickD, dEq_int, dNe_int, dEq_bl, dNe_bl, dEq_str, dNe_str, dLt, dLe, dGt, dGe, dAdd, dSub, dNeg, dIs, dIsNot, isNon, dIsO_non, dIsO_bl, dIsO_int, dIsO_str, dIsO_tup, dIsO_lst, dIsO_emp, dIsO_scr, dIsO_fr, dIsi, tyName, kit_int_int, kit_int_bool, kit_tuple_tuple, dInt, fr_ix0, fr_ix1, tup_ix0, tup_ix1, fr_len, fr_tup, dEq_fr, dNe_fr, frz_end, kk0, kk1, kk2, kk3, Option.bind_some, Option.map_some,
  List.map_cons, List.map_nil, List.getD_cons_zero, List.getD_cons_succ, List.getElem?_cons_zero, List.getElem?_cons_succ, List.getElem?_nil, List.set_cons_zero, List.set_cons_succ, List.length_cons, List.length_nil, List.replicate, List.cons_append, List.nil_append, Nat.reduceAdd, Nat.reduceSub, if_true, if_false, decide_true, decide_false, not_true_eq_false, not_false_eq_true, Bool.not_true, Bool.not_false, Bool.true_eq_false, Bool.false_eq_true, reduceCtorEq] | skip)
local macro_rules | `(tactic| simp_arith [$xs,*]) => `(tactic| simp -dsimp -implicitDefEqProofs only [$xs,*, ↓p_body, ↓p_sNil, ↓p_sSeq, ↓p_sAsg, ↓p_sPar, ↓p_sExp, ↓p_sRet, ↓p_sIf, ↓p_sFor, ↓p_for0, ↓p_forS, ↓p_sBrk, ↓p_sCnt, ↓p_sBad, ↓p_sOwn, ↓p_sApp, ↓p_sFrz, ↓p_eVar, ↓p_eC, ↓p_eUn, ↓p_eBin, ↓p_aNil, ↓p_aCons, ↓p_eTup, ↓p_eLst, ↓p_eCell, ↓p_eCallK, ↓p_eBlt, ↓p_tE, ↓p_tNt, ↓p_tAn, ↓p_tOr, ↓p_tYs, ↓p_eIf, ↓p_eAn, ↓p_eOr, ↓p_eNt, ↓p_eIxx, ↓p_oNone, ↓p_oSome, ↓p_eSll, ↓p_eChn, ↓p_eIter, ↓p_eRng, ↓p_gTg, ↓p_gTp1, ↓p_gTp2, ↓p_gTp3, ↓p_gTp4, ↓p_gTp5, ↓p_gTp6, ↓p_gTp7, ↓p_gMany0, ↓p_gManyS, ↓p_gCell, ↓p_eAttr, ↓p_eMeth, ↓p_eMake, ↓p_gFld, ↓p_tIf, ↓p_eJs, ↓p_js0, ↓p_jsS, ↓p_eBinC, ↓p_eBltC, ↓p_eMake0, ↓p_oMul, ↓p_oEq, ↓p_oIn, ↓p_oText, ↓p_eSlO, ↓p_sOwnA, ↓p_eBinS, ↓p_oAdd, ↓p_oIx, ↓p_aStar, ↓p_eMakeS, ↓p_eEnum, ↓p_oLen, ↓p_eZip, ↓p_eMakeVS, ↓p_eTupS, ↓p_eLstS, ↓p_oBool, ↓p_eLz, ↓bnd_ok, bnd_ok, ↓bnd_exc, bnd_exc, noX_ok, ↓bind_ok, ↓to_bnd, lift_some, bnd_bnd, ↓reduceIte, bindT, bindTs, dIter, dEnum, dSeq, dTru, pickD, dEq_int, dNe_int, dEq_bl, dNe_bl, dEq_str, dNe_str, dLt, dLe, dGt, dGe, dAdd, dSub, dNeg, dIs, dIsNot, isNon, dIsO_non, dIsO_bl, dIsO_int, dIsO_str, dIsO_tup, dIsO_lst, dIsO_emp, dIsO_scr, dIsO_fr, dIsi, tyName, kit_int_int, kit_int_bool, kit_tuple_tuple, dInt, fr_ix0, fr_ix1, tup_ix0, tup_ix1, fr_len, fr_tup, dEq_fr, dNe_fr, frz_end, kk0, kk1, kk2, kk3, Option.bind_some, Option.map_some,
  List.map_cons, List.map_nil, List.getD_cons_zero, List.getD_cons_succ, List.getElem?_cons_zero, List.getElem?_cons_succ, List.getElem?_nil, List.set_cons_zero, List.set_cons_succ, List.length_cons, List.length_nil, List.replicate, List.cons_append, List.nil_append, Nat.reduceAdd, Nat.reduceSub, if_true, if_false, decide_true, decide_false, not_true_eq_false, not_false_eq_true, Bool.not_true, Bool.not_false, Bool.true_eq_false, Bool.false_eq_true, reduceCtorEq])
local macro_rules | `(tactic| walk_at "evx") => `(tactic| first | simp -dsimp -implicitDefEqProofs only [*, ↓p_body, ↓p_sNil, ↓p_sSeq, ↓p_sAsg, ↓p_sPar, ↓p_sExp, ↓p_sRet, ↓p_sIf, ↓p_sFor, ↓p_for0, ↓p_forS, ↓p_sBrk, ↓p_sCnt, ↓p_sBad, ↓p_sOwn, ↓p_sApp, ↓p_sFrz, ↓p_eVar, ↓p_eC, ↓p_eUn, ↓p_eBin, ↓p_aNil, ↓p_aCons, ↓p_eTup, ↓p_eLst, ↓p_eCell, ↓p_eCallK, ↓p_eBlt, ↓p_tE, ↓p_tNt, ↓p_tAn, ↓p_tOr, ↓p_tYs, ↓p_eIf, ↓p_eAn, ↓p_eOr, ↓p_eNt, ↓p_eIxx, ↓p_oNone, ↓p_oSome, ↓p_eSll, ↓p_eChn, ↓p_eIter, ↓p_eRng, ↓p_gTg, ↓p_gTp1, ↓p_gTp2, ↓p_gTp3, ↓p_gTp4, ↓p_gTp5, ↓p_gTp6, ↓p_gTp7, ↓p_gMany0, ↓p_gManyS, ↓p_gCell, ↓p_eAttr, ↓p_eMeth, ↓p_eMake, ↓p_gFld, ↓p_tIf, ↓p_eJs, ↓p_js0, ↓p_jsS, ↓p_eBinC, ↓p_eBltC, ↓p_eMake0, ↓p_oMul, ↓p_oEq, ↓p_oIn, ↓p_oText, ↓p_eSlO, ↓p_sOwnA, ↓p_eBinS, ↓p_oAdd, ↓p_oIx, ↓p_aStar, ↓p_eMakeS, ↓p_eEnum, ↓p_oLen, ↓p_eZip, ↓p_eMakeVS, ↓p_eTupS, ↓p_eLstS, ↓p_oBool, ↓p_eLz, ↓bnd_ok, bnd_ok, ↓bnd_exc, bnd_exc, noX_ok, ↓bind_ok, ↓to_bnd, lift_some, bnd_bnd, ↓reduceIte, bindT, bindTs, dIter, dEnum, dSeq, dTru, pickD, dEq_int, dNe_int, dEq_bl, dNe_bl, dEq_str, dNe_str, dLt, dLe, dGt, dGe, dAdd, dSub, dNeg, dIs, dIsNot, isNon, dIsO_non, dIsO_bl, dIsO_int, dIsO_str, dIsO_tup, dIsO_lst, dIsO_emp, dIsO_scr, dIsO_fr, dIsi, tyName, kit_int_int, kit_int_bool, kit_tuple_tuple, dInt, fr_ix0, fr_ix1, tup_ix0, tup_ix1, fr_len, fr_tup, dEq_fr, dNe_fr, frz_end, kk0, kk1, kk2, kk3, Option.bind_some, Option.map_some,
  List.map_cons, List.map_nil, List.getD_cons_zero, List.getD_cons_succ, List.getElem?_cons_zero, List.getElem?_cons_succ, List.getElem?_nil, List.set_cons_zero, List.set_cons_succ, List.length_cons, List.length_nil, List.replicate, List.cons_append, List.nil_append, Nat.reduceAdd, Nat.reduceSub, if_true, if_false, decide_true, decide_false, not_true_eq_false, not_false_eq_true, Bool.not_true, Bool.not_false, Bool.true_eq_false, Bool.false_eq_true, reduceCtorEq] | skip)
/-! ## lists of specs compared -/
theorem toPs_d : ∀ ss : List Sp, DS.toPs (ss.map Sp.d) = some (ss.map Sp.p)
  | [] => rfl
  | s :: ss => by
    rw [List.map_cons, DS.toPs, Sp.toP, toPs_d ss]
    rfl
theorem Sp.dep (s : Sp) : s.p.depth ≤ 5 := by
  cases s <;> simp [Sp.p, PyData.depth, PyData.depthAll]
theorem deps : ∀ ss : List Sp, PyData.depthAll (ss.map Sp.p) ≤ 5
  | [] => by simp [PyData.depthAll]
  | s :: ss => by
    have a := s.dep
    have b := deps ss
    rw [List.map_cons, PyData.depthAll]
    omega
theorem lays : ∀ ss : List Sp, (∀ s ∈ ss, s.ok) → PyData.canLayAll0 (ss.map Sp.p) = true
  | [], _ => rfl
  | s :: ss, h => by
    rw [List.map_cons, PyData.canLayAll0, SeqAt.canLay_of_shaped (Sp.shp (h s List.mem_cons_self)), lays ss fun t q => h t (List.mem_cons_of_mem _ q)]
    rfl
theorem shps {ss : List Sp} (h : ∀ s ∈ ss, s.ok) : SeqAt.shaped (.list (ss.map Sp.p)) = true := by
  have a := deps ss
  show (PyData.canLay0 (.list (ss.map Sp.p)) && decide _) = true
  rw [show PyData.canLay0 (.list (ss.map Sp.p)) = PyData.canLayAll0 (ss.map Sp.p) from rfl, lays ss h, Bool.true_and, decide_eq_true_iff, PyData.depth]
  omega
theorem eqvs : ∀ ss ts : List Sp, PyData.eqvAll (ss.map Sp.p) (ts.map Sp.p) = decide (ss = ts)
  | [], [] => by simp [PyData.eqvAll]
  | [], _ :: _ => by simp [PyData.eqvAll]
  | _ :: _, [] => by simp [PyData.eqvAll]
  | s :: ss, t :: ts => by
    rw [List.map_cons, List.map_cons, PyData.eqvAll, Sp.eqv, eqvs ss ts]
    simp
theorem eq_specs {ss ts : List Sp} (hs : ∀ s ∈ ss, s.ok) (ht : ∀ s ∈ ts, s.ok) : dEq (.lst (ss.map Sp.d)) (.lst (ts.map Sp.d)) = some (.bl (decide (ss = ts))) := by
  show dEqv false _ _ = _
  unfold dEqv
  have q : ∀ us : List Sp, DS.toP (.lst (us.map Sp.d)) = some (.list (us.map Sp.p)) := fun us => by
    show (DS.toPs (us.map Sp.d)).map PyData.list = _
    rw [toPs_d]
    rfl
  rw [q, q]
  show (if SeqAt.shaped (.list (ss.map Sp.p)) = true ∧ SeqAt.shaped (.list (ts.map Sp.p)) = true then some (D.bl (false ^^ PyData.eqv (.list (ss.map Sp.p)) (.list (ts.map Sp.p)))) else none) = _
  rw [if_pos ⟨shps hs, shps ht⟩, Bool.false_xor, PyData.eqv, eqvs]
/-! ## slices of lists of specs -/
def cutL {α : Type} (xs : List α) (lo hi : Option Int) : List α := (xs.drop (HT.sIx xs.length 0 lo)).take (HT.sIx xs.length xs.length hi - HT.sIx xs.length 0 lo)
theorem sl_specs (ss : List Sp) (lo hi : Option Int) : dSl (.lst (ss.map Sp.d)) lo hi = some (.lst ((cutL ss lo hi).map Sp.d)) := by
  show some (D.lst (cutD (ss.map Sp.d) lo hi)) = _
  unfold cutD cutL
  rw [List.length_map, List.map_take, List.map_drop]
theorem cutL_mem {α : Type} {xs : List α} {lo hi : Option Int} {a : α} (h : a ∈ cutL xs lo hi) : a ∈ xs := List.mem_of_mem_drop (List.mem_of_mem_take h)
theorem cutL_len {α : Type} (xs : List α) (lo hi : Option Int) : (cutL xs lo hi).length ≤ xs.length := by
  unfold cutL
  rw [List.length_take, List.length_drop]
  omega
theorem cutL_to {α : Type} (xs : List α) (k : Nat) (h : k ≤ xs.length) : cutL xs none (some (k : Int)) = xs.take k := by
  unfold cutL
  rw [HT.sIx_none, HT.sIx_nat, Nat.min_eq_left h, List.drop_zero, Nat.sub_zero]
theorem cutL_from {α : Type} (xs : List α) (k : Nat) (h : k ≤ xs.length) : cutL xs (some (k : Int)) none = xs.drop k := by
  unfold cutL
  rw [HT.sIx_none, HT.sIx_nat, Nat.min_eq_left h]
  exact List.take_of_length_le (by rw [List.length_drop]; exact Nat.le_refl _)
theorem back_specs (ss : List Sp) : dBack (.lst (ss.map Sp.d)) (.int (-1)) = some (.lst (ss.reverse.map Sp.d)) := by
  show (if (-1 : Int) = -1 then some (D.lst (ss.map Sp.d).reverse) else none) = _
  rw [if_pos rfl, List.map_reverse]
theorem add_specs {ss ts : List Sp} (h : ss.length + ts.length ≤ 900) : dAdd (.lst (ss.map Sp.d)) (.lst (ts.map Sp.d)) = some (.lst ((ss ++ ts).map Sp.d)) := by
  rw [dAdd_lst (by rw [List.length_map, List.length_map]; omega), List.map_append]
/-! ## chains read -/
theorem ns_non : NoSt .non := ⟨rfl, fun s => by cases s <;> rfl, fun s => .inl fun X pins σ H s' o st v I w r1 r2 => by cases s <;> cases r1 <;> cases r2⟩
theorem join_cons (y a b : Str) (r : List Str) : Str.join y (a :: b :: r) = (a ++ y) ++ Str.join y (b :: r) := rfl
theorem join_free {c : Nat} {y : Str} (hy : c ∉ y.cps.toList) : ∀ ps : List Str, (∀ p ∈ ps, c ∉ p.cps.toList) → c ∉ (Str.join y ps).cps.toList
  | [], _ => by simp [Str.join, Str.empty]
  | [a], h => h a List.mem_cons_self
  | a :: b :: r, h => by
    rw [join_cons, app_cps, app_cps]
    intro q
    rcases List.mem_append.mp q with q | q
    · rcases List.mem_append.mp q with q | q
      · exact h a List.mem_cons_self q
      · exact hy q
    · exact join_free hy (b :: r) (fun p z => h p (List.mem_cons_of_mem _ z)) q
theorem Sp.ws_comma {s : Sp} (hs : s.ok) : ∀ p ∈ s.ws, 44 ∉ p.cps.toList := by
  have fx : ∀ w h, 44 ∉ (wsx w h).cps.toList := fun w h => DS.ws_free (by decide) (by decide +kernel)
  have fc : ∀ w h, 44 ∉ (wsc w h).cps.toList := fun w h => DS.ws_free (by decide) (by decide +kernel)
  have k1 : (44 : Nat) ∉ ("shrink" : Str).cps.toList := by decide +kernel
  have k2 : (44 : Nat) ∉ ("grow" : Str).cps.toList := by decide +kernel
  have k3 : (44 : Nat) ∉ ("width" : Str).cps.toList := by decide +kernel
  have k4 : (44 : Nat) ∉ ("height" : Str).cps.toList := by decide +kernel
  have k5 : (44 : Nat) ∉ ("turn" : Str).cps.toList := by decide +kernel
  have k6 : (44 : Nat) ∉ ("landscape" : Str).cps.toList := by decide +kernel
  have k7 : (44 : Nat) ∉ ("portrait" : Str).cps.toList := by decide +kernel
  have k8 : (44 : Nat) ∉ ("cover" : Str).cps.toList := by decide +kernel
  have kk : ∀ k : Str, (k = "left" ∨ k = "center" ∨ k = "right") ∨ (k = "top" ∨ k = "center" ∨ k = "bottom") → 44 ∉ k.cps.toList := by
    rintro k ((rfl | rfl | rfl) | (rfl | rfl | rfl)) <;> decide +kernel
  intro p hp
  cases s with
  | sh w h cv =>
    cases cv
    · have hp : p ∈ (["shrink", wsx w h] : List Str) := hp
      simp only [List.mem_cons, List.not_mem_nil, or_false] at hp
      rcases hp with rfl | rfl
      · exact k1
      · exact fx w h
    · have hp : p ∈ (["shrink", wsx w h, "cover"] : List Str) := hp
      simp only [List.mem_cons, List.not_mem_nil, or_false] at hp
      rcases hp with rfl | rfl | rfl
      · exact k1
      · exact fx w h
      · exact k8
  | gr w h cv =>
    cases cv
    · have hp : p ∈ (["grow", wsx w h] : List Str) := hp
      simp only [List.mem_cons, List.not_mem_nil, or_false] at hp
      rcases hp with rfl | rfl
      · exact k2
      · exact fx w h
    · have hp : p ∈ (["grow", wsx w h, "cover"] : List Str) := hp
      simp only [List.mem_cons, List.not_mem_nil, or_false] at hp
      rcases hp with rfl | rfl | rfl
      · exact k2
      · exact fx w h
      · exact k8
  | cw w h k =>
    have hp : p ∈ (["width", wsc w h, k] : List Str) := hp
    simp only [List.mem_cons, List.not_mem_nil, or_false] at hp
    rcases hp with rfl | rfl | rfl
    · exact k3
    · exact fc w h
    · exact kk _ (.inl hs.2.2)
  | ch w h k =>
    have hp : p ∈ (["height", wsc w h, k] : List Str) := hp
    simp only [List.mem_cons, List.not_mem_nil, or_false] at hp
    rcases hp with rfl | rfl | rfl
    · exact k4
    · exact fc w h
    · exact kk _ (.inr hs.2.2)
  | tn n =>
    have hp : p ∈ (["turn", nt n] : List Str) := hp
    simp only [List.mem_cons, List.not_mem_nil, or_false] at hp
    rcases hp with rfl | rfl
    · exact k5
    · exact nt_freeC (by decide)
  | ls =>
    have hp : p ∈ [("landscape" : Str)] := hp
    rw [List.mem_singleton.mp hp]
    exact k6
  | po =>
    have hp : p ∈ [("portrait" : Str)] := hp
    rw [List.mem_singleton.mp hp]
    exact k7
theorem Sp.tx_comma {s : Sp} (hs : s.ok) : 44 ∉ s.tx.cps.toList := by
  rw [Sp.tx_ws]
  exact join_free (by decide +kernel) _ (Sp.ws_comma hs)
theorem Sp.tx_ne (s : Sp) : s.tx.cps.toList ≠ [] := by
  cases s with
  | ls => decide +kernel
  | po => decide +kernel
  | tn n =>
    show (("turn " : Str) ++ nt n).cps.toList ≠ []
    rw [app_cps]
    exact List.append_ne_nil_of_left_ne_nil (by decide +kernel) _
  | sh w h cv =>
    show ((((("shrink" : Str) ++ (" " : Str)) ++ nt w) ++ ("x" : Str)) ++ nt h ++ _).cps.toList ≠ []
    rw [app_cps, app_cps, app_cps, app_cps, app_cps, List.append_assoc, List.append_assoc, List.append_assoc, List.append_assoc]
    exact List.append_ne_nil_of_left_ne_nil (by decide +kernel) _
  | gr w h cv =>
    show ((((("grow" : Str) ++ (" " : Str)) ++ nt w) ++ ("x" : Str)) ++ nt h ++ _).cps.toList ≠ []
    rw [app_cps, app_cps, app_cps, app_cps, app_cps, List.append_assoc, List.append_assoc, List.append_assoc, List.append_assoc]
    exact List.append_ne_nil_of_left_ne_nil (by decide +kernel) _
  | cw w h k =>
    show (((((("width" : Str) ++ (" " : Str)) ++ nt w) ++ (":" : Str)) ++ nt h) ++ (" " : Str) ++ k).cps.toList ≠ []
    rw [app_cps, app_cps, app_cps, app_cps, app_cps, app_cps, List.append_assoc, List.append_assoc, List.append_assoc, List.append_assoc, List.append_assoc]
    exact List.append_ne_nil_of_left_ne_nil (by decide +kernel) _
  | ch w h k =>
    show (((((("height" : Str) ++ (" " : Str)) ++ nt w) ++ (":" : Str)) ++ nt h) ++ (" " : Str) ++ k).cps.toList ≠ []
    rw [app_cps, app_cps, app_cps, app_cps, app_cps, app_cps, List.append_assoc, List.append_assoc, List.append_assoc, List.append_assoc, List.append_assoc]
    exact List.append_ne_nil_of_left_ne_nil (by decide +kernel) _
theorem jn_ne {s : Sp} {ss : List Sp} : (jn (s :: ss)).cps.toList ≠ [] := by
  unfold jn
  rw [TL.join_eq, List.map_cons]
  cases ss with
  | nil => exact s.tx_ne
  | cons t ss =>
    rw [List.map_cons, join_cons, app_cps, app_cps, List.append_assoc]
    exact List.append_ne_nil_of_left_ne_nil s.tx_ne _
theorem jn_some (s : Sp) (ss : List Sp) : (jn (s :: ss) == "") = false := by
  rw [beq_eq_false_iff_ne]
  intro h
  apply jn_ne (s := s) (ss := ss)
  rw [h]
  rfl
theorem jn_nil : jn [] = "" := rfl
theorem join_len (y : Str) : ∀ ps : List Str, (Str.join y ps).length ≤ (ps.map (·.length)).sum + y.length * ps.length
  | [] => by simp [Str.join, Str.empty, Str.length]
  | [a] => by
    show a.length ≤ _
    simp
  | a :: b :: r => by
    have q := join_len y (b :: r)
    rw [join_cons, app_len, app_len, List.map_cons, List.sum_cons, List.length_cons, Nat.mul_add, Nat.mul_one]
    omega
theorem jn_len {ss : List Sp} (hs : ∀ s ∈ ss, s.ok) (hl : ss.length ≤ 60) : (jn ss).length ≤ 90000 := by
  unfold jn
  rw [TL.join_eq]
  have a := join_len ", " (ss.map Sp.tx)
  have b := sum_tx hs
  have c : (", " : Str).length = 2 := by decide +kernel
  rw [c, List.length_map] at a
  omega
theorem split_jn {ss : List Sp} (hs : ∀ s ∈ ss, s.ok) (hl : ss.length ≤ 60) (hn : ss ≠ []) : dSplit (.str (jn ss)) (.str ", ") = some (.lst (ss.map fun s => .str s.tx)) := by
  have e := TL.split_join (y := (", " : Str)) (s := 44) (S := [32]) (by decide +kernel) (by decide +kernel) (parts := ss.map Sp.tx) (by simpa using hn) (fun p hp => by
    obtain ⟨s, q, rfl⟩ := List.mem_map.mp hp
    exact Sp.tx_comma (hs s q))
  have l := jn_len hs hl
  have k := line_big
  show (if _ then _ else _) = _
  rw [if_pos ⟨by decide +kernel, by omega⟩]
  show some (D.lst ((Txt.split (Txt.join ", " (ss.map Sp.tx)) ", ").map .str)) = _
  rw [e, List.map_map]
  rfl
abbrev IsStepsIn (C : FEnv) : Prop := ∀ (ss : List Sp) st, (∀ s ∈ ss, s.ok) → ss.length ≤ 60 → ∃ l, C "steps_in" [.str (jn ss)] st = .ok (.lst (ss.map Sp.o)) (st ++ l)
theorem no_none {C : FEnv} (h : IsStEq C) (s : Sp) (ss : List Sp) (st : Store) : oIn false ctN tabE (opTab ctS ctM "__contains__" 2 isP2) dIn C .non (.lst ((s :: ss).map Sp.o)) st = .ok (.bl false) st := by
  rw [p_oIn]
  have e : dIn .non (.lst ((s :: ss).map Sp.o)) = none := by
    have nf := sp_nf s
    have np : DS.toPs ((s :: ss).map Sp.o) = none := by
      rw [List.map_cons, DS.toPs]
      cases s <;> rfl
    show (if flatD .non = true ∧ ((s :: ss).map Sp.o).all flatD = true then _ else (inP .non ((s :: ss).map Sp.o)).map _) = none
    rw [if_neg (by rw [List.map_cons, List.all_cons, nf]; simp)]
    unfold inP
    rw [np]
    rfl
  rw [e]
  show (inT ctN tabE C .non ((s :: ss).map Sp.o) st).bind (fun v st => tellB false v st) = _
  rw [inT_no h ns_non]
  rfl
theorem ok_stepsIn {C C' : FEnv} (e : C' "steps_in" = body 3 b_steps_in C) (hr : IsRdStep C) (he : IsStEq C) : IsStepsIn C' := fun ss st hs hl => by
  rw [e]
  unfold b_steps_in
  cases ss with
  | nil =>
    refine ⟨[], ?_⟩
    rw [jn_nil, List.append_nil, List.map_nil]
    have q : dEq (.str "") (.str "") = some (.bl true) := by kernel_rfl
    simp_arith [↓q]
  | cons s ss =>
    have q : dEq (.str (jn (s :: ss))) (.str "") = some (.bl false) := by
      show some (D.bl (jn (s :: ss) == "")) = _
      rw [jn_some]
    have sp := split_jn hs hl (List.cons_ne_nil _ _)
    have k1 := len_line (f := fun s : Sp => D.str s.tx) (ss := s :: ss) (by omega)
    obtain ⟨ys, st2, e2, ey, l, es⟩ := compGo_map (C := C) (g := .nm 2) (e := eCallK "read_step" [.pos 0] (aCons (eVar 2) aNil) aNil) (r := [.val (.str (jn (s :: ss))), .un, .un]) (I := fun st' => ∃ l, st' = st ++ l) (f := fun s => .str s.tx) (h := fun s => s.o) (s :: ss) [] st
      (fun t hm st' ⟨l, hi⟩ => by
        subst hi
        have r1 := fun st => hr t st (hs t hm)
        generalize t.o = o1 at *
        generalize t.tx = t1 at *
        generalize jn (s :: ss) = cs at *
        simp_arith [r1]
        exact ⟨_, _, rfl, rfl, _, List.append_assoc _ _ _⟩) ⟨[], by simp⟩
    rw [List.nil_append] at ey
    subst ey
    subst es
    have no := fun st => no_none he s ss st
    have ln : dLen [.lst ((s :: ss).map Sp.o)] = some (.int (((s :: ss).length : Nat) : Int)) := by
      show some (D.int ((((s :: ss).map Sp.o).length : Nat) : Int)) = _
      rw [List.length_map]
    have gt : dGt (.int (((s :: ss).length : Nat) : Int)) (.int 60) = some (.bl false) := by
      show some (D.bl (decide _)) = _
      rw [decide_eq_false (by omega)]
    have ki : ∀ x : Str, dIsO ctN [.str x, .ty "str"] = some (.bl true) := fun x => by kernel_rfl
    refine ⟨l, ?_⟩
    show _ = Res.ok (D.lst ((s :: ss).map Sp.o)) _
    generalize jn (s :: ss) = cs at *
    generalize (s :: ss).map Sp.o = os at *
    generalize ((s :: ss).map fun s => D.str s.tx) = ts at *
    generalize (((s :: ss).length : Nat) : Int) = n at *
    generalize oIn false ctN tabE (opTab ctS ctM "__contains__" 2 isP2) dIn = F at *
    simp_arith [↓q, ki, ↓sp, ↓p_eComp, k1, wipeR, e2, no, ↓ln, ↓gt]
abbrev IsChRead (C : FEnv) : Prop := ∀ (ss : List Sp) st, (∀ s ∈ ss, s.ok) → ss.length ≤ 60 → ∃ l, C "Chain.read" [.cls "Chain", .str (jn ss)] st = .ok (chn ss) (st ++ l)
theorem ok_chRead {C C' : FEnv} (e : C' "Chain.read" = body 3 b_Chain_read C) (h : IsStepsIn C) (hi : IsChainI C) : IsChRead C' := fun ss st hs hl => by
  rw [e]
  unfold b_Chain_read
  obtain ⟨l, q⟩ := h ss st hs hl
  have i1 := hi ss (st ++ l) hl
  have ec : chn ss = .obj "Chain" ["held"] [.tup (ss.map Sp.o)] := rfl
  have lz : ((ss.map Sp.o).length ≤ 60) = True := eq_true (by rw [List.length_map]; exact hl)
  have di : dIs (.lst (ss.map Sp.o)) .non = some (.bl false) := rfl
  have tb : (starTab ctK ctSt).lookup ("Chain" : Str) = some ("Chain.__init__" : Str) := by kernel_rfl
  refine ⟨l ++ [.dead], ?_⟩
  rw [ec, ← List.append_assoc]
  generalize jn ss = cs at *
  generalize ss.map Sp.o = os at *
  simp_arith [q, ↓di, i1, lz, tb, List.append_nil]
end DS
namespace DS
open PySem L2 PyProof.Rows
local macro_rules | `(tactic| walk_at "ev") => `(tactic| first | simp -dsimp -implicitDefEqProofs only [↓p_body, ↓p_sNil, ↓p_sSeq, ↓p_sAsg, ↓p_sPar, ↓p_sExp, ↓p_sRet, ↓p_sIf, ↓p_sFor, ↓p_for0, ↓p_forS, ↓p_sBrk, ↓p_sCnt, ↓p_sBad, ↓p_sOwn, ↓p_sApp, ↓p_sFrz, ↓p_eVar, ↓p_eC, ↓p_eUn, ↓p_eBin, ↓p_aNil, ↓p_aCons, ↓p_eTup, ↓p_eLst, ↓p_eCell, ↓p_eCallK, ↓p_eBlt, ↓p_tE, ↓p_tNt, ↓p_tAn, ↓p_tOr, ↓p_tYs, ↓p_eIf, ↓p_eAn, ↓p_eOr, ↓p_eNt, ↓p_eIxx, ↓p_oNone, ↓p_oSome, ↓p_eSll, ↓p_eChn, ↓p_eIter, ↓p_eRng, ↓p_gTg, ↓p_gTp1, ↓p_gTp2, ↓p_gTp3, ↓p_gTp4, ↓p_gTp5, ↓p_gTp6, ↓p_gTp7, ↓p_gMany0, ↓p_gManyS, ↓p_gCell, ↓p_eAttr, ↓p_eMeth, ↓p_eMake, ↓p_gFld, ↓p_tIf, ↓p_eJs, ↓p_js0, ↓p_jsS, ↓p_eBinC, ↓p_eBltC, ↓p_eMake0, ↓p_oMul, ↓p_oEq, ↓p_oIn, ↓p_oText, ↓p_eSlO, ↓p_sOwnA, ↓p_eBinS, ↓p_oAdd, ↓p_oIx, ↓p_aStar, ↓p_eMakeS, ↓p_eEnum, ↓p_oLen, ↓p_eZip, ↓p_eMakeVS, ↓p_eTupS, ↓p_eLstS, ↓p_oBool, ↓p_eLz, ↓bnd_ok, bnd_ok, ↓bnd_exc, bnd_exc, noX_ok, ↓bind_ok, ↓to_bnd, lift_some, bnd_bnd, ↓reduceIte, bindT, bindTs, dIter, dEnum, dSeq, dTru, pickD, dEq_int, dNe_int, dEq_bl, dNe_bl, dEq_str, dNe_str, dLt, dLe, dGt, dGe, dAdd, dSub, dNeg, dIs, dIsNot, isNon, dIsO_non, dIsO_bl, dIsO_int, dIsO_str, dIsO_tup, dIsO_lst, dIsO_emp, dIsO_scr, dIsO_fr, dIsi, tyName, kit_int_int, kit_int_bool, kit_tuple_tuple, dInt, fr_ix0, fr_ix1, tup_ix0, tup_ix1, fr_len, fr_tup, dEq_fr, dNe_fr, frz_end, kk0, kk1, kk2, kk3, Option.bind_some, Option.map_some,
  List.map_cons, List.map_nil, List.getD_cons_zero, List.getD_cons_succ, List.getElem?_cons_zero, List.getElem?_cons_succ, List.getElem?_nil, List.set_cons_zero, List.set_cons_succ, List.length_cons, List.length_nil, List.replicate, List.cons_append, List.nil_append, Nat.reduceAdd, Nat.reduceSub, if_true, if_false, decide_true, decide_false, not_true_eq_false, not_false_eq_true, Bool.not_true, Bool.not_false, Bool.true_eq_false, Bool.false_eq_true, reduceCtorEq] | skip)
local macro_rules | `(tactic| simp_arith [$xs,*]) => `(tactic| simp -dsimp -implicitDefEqProofs only [$xs,*, ↓p_body, ↓p_sNil, ↓p_sSeq, ↓p_sAsg, ↓p_sPar, ↓p_sExp, ↓p_sRet, ↓p_sIf, ↓p_sFor, ↓p_for0, ↓p_forS, ↓p_sBrk, ↓p_sCnt, ↓p_sBad, ↓p_sOwn, ↓p_sApp, ↓p_sFrz, ↓p_eVar, ↓p_eC, ↓p_eUn, ↓p_eBin, ↓p_aNil, ↓p_aCons, ↓p_eTup, ↓p_eLst, ↓p_eCell, ↓p_eCallK, ↓p_eBlt, ↓p_tE, ↓p_tNt, ↓p_tAn, ↓p_tOr, ↓p_tYs, ↓p_eIf, ↓p_eAn, ↓p_eOr, ↓p_eNt, ↓p_eIxx, ↓p_oNone, ↓p_oSome, ↓p_eSll, ↓p_eChn, ↓p_eIter, ↓p_eRng, ↓p_gTg, ↓p_gTp1, ↓p_gTp2, ↓p_gTp3, ↓p_gTp4, ↓p_gTp5, ↓p_gTp6, ↓p_gTp7, ↓p_gMany0, ↓p_gManyS, ↓p_gCell, ↓p_eAttr, ↓p_eMeth, ↓p_eMake, ↓p_gFld, ↓p_tIf, ↓p_eJs, ↓p_js0, ↓p_jsS, ↓p_eBinC, ↓p_eBltC, ↓p_eMake0, ↓p_oMul, ↓p_oEq, ↓p_oIn, ↓p_oText, ↓p_eSlO, ↓p_sOwnA, ↓p_eBinS, ↓p_oAdd, ↓p_oIx, ↓p_aStar, ↓p_eMakeS, ↓p_eEnum, ↓p_oLen, ↓p_eZip, ↓p_eMakeVS, ↓p_eTupS, ↓p_eLstS, ↓p_oBool, ↓p_eLz, ↓bnd_ok, bnd_ok, ↓bnd_exc, bnd_exc, noX_ok, ↓bind_ok, ↓to_bnd, lift_some, bnd_bnd, ↓reduceIte, bindT, bindTs, dIter, dEnum, dSeq, dTru, pickD, dEq_int, dNe_int, dEq_bl, dNe_bl, dEq_str, dNe_str, dLt, dLe, dGt, dGe, dAdd, dSub, dNeg, dIs, dIsNot, isNon, dIsO_non, dIsO_bl, dIsO_int, dIsO_str, dIsO_tup, dIsO_lst, dIsO_emp, dIsO_scr, dIsO_fr, dIsi, tyName, kit_int_int, kit_int_bool, kit_tuple_tuple, dInt, fr_ix0, fr_ix1, tup_ix0, tup_ix1, fr_len, fr_tup, dEq_fr, dNe_fr, frz_end, kk0, kk1, kk2, kk3, Option.bind_some, Option.map_some,
  List.map_cons, List.map_nil, List.getD_cons_zero, List.getD_cons_succ, List.getElem?_cons_zero, List.getElem?_cons_succ, List.getElem?_nil, List.set_cons_zero, List.set_cons_succ, List.length_cons, List.length_nil, List.replicate, List.cons_append, List.nil_append, Nat.reduceAdd, Nat.reduceSub, if_true, if_false, decide_true, decide_false, not_true_eq_false, not_false_eq_true, Bool.not_true, Bool.not_false, Bool.true_eq_false, Bool.false_eq_true, reduceCtorEq])
local macro_rules | `(tactic| walk_at "evx") => `(tactic| first | simp -dsimp -implicitDefEqProofs only [*, ↓p_body, ↓p_sNil, ↓p_sSeq, ↓p_sAsg, ↓p_sPar, ↓p_sExp, ↓p_sRet, ↓p_sIf, ↓p_sFor, ↓p_for0, ↓p_forS, ↓p_sBrk, ↓p_sCnt, ↓p_sBad, ↓p_sOwn, ↓p_sApp, ↓p_sFrz, ↓p_eVar, ↓p_eC, ↓p_eUn, ↓p_eBin, ↓p_aNil, ↓p_aCons, ↓p_eTup, ↓p_eLst, ↓p_eCell, ↓p_eCallK, ↓p_eBlt, ↓p_tE, ↓p_tNt, ↓p_tAn, ↓p_tOr, ↓p_tYs, ↓p_eIf, ↓p_eAn, ↓p_eOr, ↓p_eNt, ↓p_eIxx, ↓p_oNone, ↓p_oSome, ↓p_eSll, ↓p_eChn, ↓p_eIter, ↓p_eRng, ↓p_gTg, ↓p_gTp1, ↓p_gTp2, ↓p_gTp3, ↓p_gTp4, ↓p_gTp5, ↓p_gTp6, ↓p_gTp7, ↓p_gMany0, ↓p_gManyS, ↓p_gCell, ↓p_eAttr, ↓p_eMeth, ↓p_eMake, ↓p_gFld, ↓p_tIf, ↓p_eJs, ↓p_js0, ↓p_jsS, ↓p_eBinC, ↓p_eBltC, ↓p_eMake0, ↓p_oMul, ↓p_oEq, ↓p_oIn, ↓p_oText, ↓p_eSlO, ↓p_sOwnA, ↓p_eBinS, ↓p_oAdd, ↓p_oIx, ↓p_aStar, ↓p_eMakeS, ↓p_eEnum, ↓p_oLen, ↓p_eZip, ↓p_eMakeVS, ↓p_eTupS, ↓p_eLstS, ↓p_oBool, ↓p_eLz, ↓bnd_ok, bnd_ok, ↓bnd_exc, bnd_exc, noX_ok, ↓bind_ok, ↓to_bnd, lift_some, bnd_bnd, ↓reduceIte, bindT, bindTs, dIter, dEnum, dSeq, dTru, pickD, dEq_int, dNe_int, dEq_bl, dNe_bl, dEq_str, dNe_str, dLt, dLe, dGt, dGe, dAdd, dSub, dNeg, dIs, dIsNot, isNon, dIsO_non, dIsO_bl, dIsO_int, dIsO_str, dIsO_tup, dIsO_lst, dIsO_emp, dIsO_scr, dIsO_fr, dIsi, tyName, kit_int_int, kit_int_bool, kit_tuple_tuple, dInt, fr_ix0, fr_ix1, tup_ix0, tup_ix1, fr_len, fr_tup, dEq_fr, dNe_fr, frz_end, kk0, kk1, kk2, kk3, Option.bind_some, Option.map_some,
  List.map_cons, List.map_nil, List.getD_cons_zero, List.getD_cons_succ, List.getElem?_cons_zero, List.getElem?_cons_succ, List.getElem?_nil, List.set_cons_zero, List.set_cons_succ, List.length_cons, List.length_nil, List.replicate, List.cons_append, List.nil_append, Nat.reduceAdd, Nat.reduceSub, if_true, if_false, decide_true, decide_false, not_true_eq_false, not_false_eq_true, Bool.not_true, Bool.not_false, Bool.true_eq_false, Bool.false_eq_true, reduceCtorEq] | skip)
/-! ## k24: chains made -/
theorem dne_specs {ss ts : List Sp} (hs : ∀ s ∈ ss, s.ok) (ht : ∀ s ∈ ts, s.ok) : dNe (.lst (ss.map Sp.d)) (.lst (ts.map Sp.d)) = some (.bl (!decide (ss = ts))) := by
  show dEqv true _ _ = _
  unfold dEqv
  have q : ∀ us : List Sp, DS.toP (.lst (us.map Sp.d)) = some (.list (us.map Sp.p)) := fun us => by
    show (DS.toPs (us.map Sp.d)).map PyData.list = _
    rw [toPs_d]
    rfl
  rw [q, q]
  show (if SeqAt.shaped (.list (ss.map Sp.p)) = true ∧ SeqAt.shaped (.list (ts.map Sp.p)) = true then some (D.bl (true ^^ PyData.eqv (.list (ss.map Sp.p)) (.list (ts.map Sp.p)))) else none) = _
  rw [if_pos ⟨shps hs, shps ht⟩, Bool.true_xor, PyData.eqv, eqvs]
def chR (n : Nat) : Str := (("Chain(" : Str) ++ nt n) ++ (")" : Str)
abbrev IsChainR (C : FEnv) : Prop := ∀ (ss : List Sp) st, ss.length ≤ 60 → C "Chain.__repr__" [chn ss] st = .ok (.str (chR ss.length)) st
theorem len60 {n : Nat} (h : n ≤ 60) : n < 2 ^ 1900 := Nat.lt_of_le_of_lt h (by decide +kernel)
theorem nt60 {n : Nat} (h : n ≤ 60) : (nt n).length ≤ 640 := nt_len (len60 h)
theorem ok_chainR {C C' : FEnv} (e : C' "Chain.__repr__" = body 1 b_Chain___repr__ C) : IsChainR C' := fun ss st hl => by
  rw [e]
  unfold b_Chain___repr__
  have ha := fun C st => at_held ss C st
  have la : dLen [.tup (ss.map Sp.o)] = some (.int (ss.length : Nat)) := by
    show some (D.int (((ss.map Sp.o).length : Nat) : Int)) = _
    rw [List.length_map]
  have h2 := fmt_nt (len60 hl)
  have ht := nt60 hl
  unfold chR
  have l1 : ("Chain(" : Str).length = 6 := by decide +kernel
  have l2 : (")" : Str).length = 1 := by decide +kernel
  have kk : 3000 ≤ sizeLine := by rw [sizeLine_eq]; decide
  have c1 : (("Chain(" : Str).length ≤ sizeLine) = True := eq_true (by omega)
  have c2 : ((("Chain(" : Str) ++ nt ss.length).length ≤ sizeLine) = True := eq_true (by simp only [app_len]; omega)
  have c3 : (((("Chain(" : Str) ++ nt ss.length) ++ (")" : Str)).length ≤ sizeLine) = True := eq_true (by simp only [app_len]; omega)
  generalize chn ss = ca at *
  generalize ss.map Sp.o = os at *
  generalize nt ss.length = t at *
  generalize ((ss.length : Nat) : Int) = k at *
  simp_arith [ha, la, h2, emp_app, c1, c2, c3]
/-! ### _law_passed -/
abbrev IsPassed (C : FEnv) : Prop := ∀ (ss : List Sp) st, (∀ s ∈ ss, s.ok) → ss.length ≤ 5 → Gives (C "_law_passed" [.lst (ss.map Sp.d)] st) fun d st' => d = chn ss ∧ ∃ l, st' = st ++ l
theorem ok_passed {C C' : FEnv} (e : C' "_law_passed" = body 3 b_law_passed C) (hm : IsSpMade C) (hi : IsChainI C) : IsPassed C' := fun ss st hs hl => by
  rw [e]
  unfold b_law_passed
  have k1 := len_line (f := Sp.d) (ss := ss) (by omega)
  obtain ⟨ys, st2, e2, ey, l, es⟩ := compGo_map (C := C) (g := .nm 2) (e := eCallK "_law_made" [.pos 0] (aCons (eVar 2) aNil) aNil) (r := [.val (.lst (ss.map Sp.d)), .un, .un]) (I := fun st' => ∃ l, st' = st ++ l) (f := Sp.d) (h := Sp.o) ss [] st
    (fun s hm' st' ⟨l, hi'⟩ => by
      subst hi'
      have u2 := fun st => hm s st (hs s hm')
      generalize s.d = o1 at *
      generalize s.o = t1 at *
      generalize ss.map Sp.d = cs at *
      simp_arith [u2]
      exact ⟨_, _, rfl, rfl, _, List.append_assoc _ _ _⟩) ⟨[], by simp⟩
  rw [List.nil_append] at ey
  subst ey
  subst es
  have i1 := fun st => hi ss st (by omega)
  have lz : ((ss.map Sp.o).length ≤ 60) = True := eq_true (by rw [List.length_map]; omega)
  have ec : chn ss = .obj "Chain" ["held"] [.tup (ss.map Sp.o)] := rfl
  rw [ec]
  match ss, hl with
  | [], _ =>
    simp only [List.map_nil, List.map_cons, List.length_nil, List.length_cons] at *
    have ln : dLen [.lst []] = some (.int 0) := rfl
    have e00 : dEq (.int 0) (.int 0) = some (.bl true) := by kernel_rfl
    simp_arith [↓p_eComp, k1, wipeR, e2, ↓ln, ↓e00, i1, lz, List.append_nil, List.drop_succ_cons, List.drop_zero]
    exact ⟨_, _, rfl, rfl, _, List.append_assoc _ _ _⟩
  | [a], _ =>
    simp only [List.map_nil, List.map_cons, List.length_nil, List.length_cons] at *
    have ln : dLen [.lst [a.o]] = some (.int 1) := rfl
    have e10 : dEq (.int 1) (.int 0) = some (.bl false) := by kernel_rfl
    have e11 : dEq (.int 1) (.int 1) = some (.bl true) := by kernel_rfl
    have x0 : ∀ a st, dIx (.lst [a]) (.int 0) st = some a := fun _ _ => rfl
    generalize a.o = oa at *
    generalize a.d = da at *
    simp_arith [↓p_eComp, k1, wipeR, e2, ↓ln, ↓e10, ↓e11, x0, i1, lz, List.append_nil, List.drop_succ_cons, List.drop_zero]
    exact ⟨_, _, rfl, rfl, _, List.append_assoc _ _ _⟩
  | [a, b], _ =>
    simp only [List.map_nil, List.map_cons, List.length_nil, List.length_cons] at *
    have ln : dLen [.lst [a.o, b.o]] = some (.int 2) := rfl
    have e20 : dEq (.int 2) (.int 0) = some (.bl false) := by kernel_rfl
    have e21 : dEq (.int 2) (.int 1) = some (.bl false) := by kernel_rfl
    have e22 : dEq (.int 2) (.int 2) = some (.bl true) := by kernel_rfl
    have x0 : ∀ a b st, dIx (.lst [a, b]) (.int 0) st = some a := fun _ _ _ => rfl
    have x1 : ∀ a b st, dIx (.lst [a, b]) (.int 1) st = some b := fun _ _ _ => rfl
    generalize a.o = oa at *
    generalize a.d = da at *
    generalize b.o = ob at *
    generalize b.d = db at *
    simp_arith [↓p_eComp, k1, wipeR, e2, ↓ln, ↓e20, ↓e21, ↓e22, x0, x1, i1, lz, List.append_nil, List.drop_succ_cons, List.drop_zero]
    exact ⟨_, _, rfl, rfl, _, List.append_assoc _ _ _⟩
  | [a, b, c], _ =>
    simp only [List.map_nil, List.map_cons, List.length_nil, List.length_cons] at *
    have ln : dLen [.lst [a.o, b.o, c.o]] = some (.int 3) := rfl
    have e30 : dEq (.int 3) (.int 0) = some (.bl false) := by kernel_rfl
    have e31 : dEq (.int 3) (.int 1) = some (.bl false) := by kernel_rfl
    have e32 : dEq (.int 3) (.int 2) = some (.bl false) := by kernel_rfl
    have e33 : dEq (.int 3) (.int 3) = some (.bl true) := by kernel_rfl
    have x0 : ∀ a b c st, dIx (.lst [a, b, c]) (.int 0) st = some a := fun _ _ _ _ => rfl
    have x1 : ∀ a b c st, dIx (.lst [a, b, c]) (.int 1) st = some b := fun _ _ _ _ => rfl
    have x2 : ∀ a b c st, dIx (.lst [a, b, c]) (.int 2) st = some c := fun _ _ _ _ => rfl
    generalize a.o = oa at *
    generalize a.d = da at *
    generalize b.o = ob at *
    generalize b.d = db at *
    generalize c.o = oc at *
    generalize c.d = dc at *
    simp_arith [↓p_eComp, k1, wipeR, e2, ↓ln, ↓e30, ↓e31, ↓e32, ↓e33, x0, x1, x2, i1, lz, List.append_nil, List.drop_succ_cons, List.drop_zero]
    exact ⟨_, _, rfl, rfl, _, List.append_assoc _ _ _⟩
  | [a, b, c, d], _ =>
    simp only [List.map_nil, List.map_cons, List.length_nil, List.length_cons] at *
    have ln : dLen [.lst [a.o, b.o, c.o, d.o]] = some (.int 4) := rfl
    have e40 : dEq (.int 4) (.int 0) = some (.bl false) := by kernel_rfl
    have e41 : dEq (.int 4) (.int 1) = some (.bl false) := by kernel_rfl
    have e42 : dEq (.int 4) (.int 2) = some (.bl false) := by kernel_rfl
    have e43 : dEq (.int 4) (.int 3) = some (.bl false) := by kernel_rfl
    have e44 : dEq (.int 4) (.int 4) = some (.bl true) := by kernel_rfl
    have x0 : ∀ a b c d st, dIx (.lst [a, b, c, d]) (.int 0) st = some a := fun _ _ _ _ _ => rfl
    have x1 : ∀ a b c d st, dIx (.lst [a, b, c, d]) (.int 1) st = some b := fun _ _ _ _ _ => rfl
    have x2 : ∀ a b c d st, dIx (.lst [a, b, c, d]) (.int 2) st = some c := fun _ _ _ _ _ => rfl
    have x3 : ∀ a b c d st, dIx (.lst [a, b, c, d]) (.int 3) st = some d := fun _ _ _ _ _ => rfl
    generalize a.o = oa at *
    generalize a.d = da at *
    generalize b.o = ob at *
    generalize b.d = db at *
    generalize c.o = oc at *
    generalize c.d = dc at *
    generalize d.o = od at *
    generalize d.d = dd at *
    simp_arith [↓p_eComp, k1, wipeR, e2, ↓ln, ↓e40, ↓e41, ↓e42, ↓e43, ↓e44, x0, x1, x2, x3, i1, lz, List.append_nil, List.drop_succ_cons, List.drop_zero]
    exact ⟨_, _, rfl, rfl, _, List.append_assoc _ _ _⟩
  | [a, b, c, d, f], _ =>
    simp only [List.map_nil, List.map_cons, List.length_nil, List.length_cons] at *
    have ln : dLen [.lst [a.o, b.o, c.o, d.o, f.o]] = some (.int 5) := rfl
    have e50 : dEq (.int 5) (.int 0) = some (.bl false) := by kernel_rfl
    have e51 : dEq (.int 5) (.int 1) = some (.bl false) := by kernel_rfl
    have e52 : dEq (.int 5) (.int 2) = some (.bl false) := by kernel_rfl
    have e53 : dEq (.int 5) (.int 3) = some (.bl false) := by kernel_rfl
    have e54 : dEq (.int 5) (.int 4) = some (.bl false) := by kernel_rfl
    have x0 : ∀ a b c d f st, dIx (.lst [a, b, c, d, f]) (.int 0) st = some a := fun _ _ _ _ _ _ => rfl
    have x1 : ∀ a b c d f st, dIx (.lst [a, b, c, d, f]) (.int 1) st = some b := fun _ _ _ _ _ _ => rfl
    have x2 : ∀ a b c d f st, dIx (.lst [a, b, c, d, f]) (.int 2) st = some c := fun _ _ _ _ _ _ => rfl
    have x3 : ∀ a b c d f st, dIx (.lst [a, b, c, d, f]) (.int 3) st = some d := fun _ _ _ _ _ _ => rfl
    have x4 : ∀ a b c d f st, dIx (.lst [a, b, c, d, f]) (.int 4) st = some f := fun _ _ _ _ _ _ => rfl
    generalize a.o = oa at *
    generalize a.d = da at *
    generalize b.o = ob at *
    generalize b.d = db at *
    generalize c.o = oc at *
    generalize c.d = dc at *
    generalize d.o = od at *
    generalize d.d = dd at *
    generalize f.o = of at *
    generalize f.d = df at *
    simp_arith [↓p_eComp, k1, wipeR, e2, ↓ln, ↓e50, ↓e51, ↓e52, ↓e53, ↓e54, x0, x1, x2, x3, x4, i1, lz, List.append_nil, List.drop_succ_cons, List.drop_zero]
    exact ⟨_, _, rfl, rfl, _, List.append_assoc _ _ _⟩
/-! ### _law_is -/
theorem chn_rep {C : FEnv} (hc : IsChainR C) {ss : List Sp} (hl : ss.length ≤ 60) (st : Store) : oTextN (opTab ctS ctM "__repr__" 1 isP1) C [chn ss] st = .ok (.str (chR ss.length)) st := by
  have e : oTextN (opTab ctS ctM "__repr__" 1 isP1) C [chn ss] st = (C "Chain.__repr__" [chn ss] st).bind fun v st => tellS v st := by kernel_rfl
  rw [e, hc ss st hl]
  rfl
theorem chn_bool {C : FEnv} (h : IsChainN C) {ss : List Sp} (hl : ss.length ≤ 60) (st : Store) : oBoolN (opTab ctS ctM "__len__" 1 isP1) C [chn ss] st = .ok (.bl (((ss.length : Nat) : Int) != 0)) st := by
  have e : oBoolN (opTab ctS ctM "__len__" 1 isP1) C [chn ss] st = (C "Chain.__len__" [chn ss] st).bind fun v st => tellT v st := by kernel_rfl
  rw [e, h ss st]
  rw [bind_ok]
  have c1 : (0 : Int) ≤ (ss.length : Nat) := by omega
  have c2 : ((ss.length : Nat) : Int) < 2 ^ 62 := by omega
  generalize ((ss.length : Nat) : Int) = k at *
  unfold tellT
  simp only [c1, c2, and_self, if_true]
abbrev IsIs (C : FEnv) : Prop := ∀ (ss : List Sp) (st : Store), (∀ s ∈ ss, s.ok) → ss.length ≤ 60 → Gives (C "_law_is" [chn ss, .lst (ss.map Sp.d)] st) fun d st' => d = .bl true ∧ ∃ l, st' = st ++ l
theorem eq_sp {C : FEnv} (he : IsStEq C) {s : Sp} (so : s.ok) (st : Store) : oEqN false ctN (opTab ctS ctM "__eq__" 2 isP2) C s.o s.o st = .ok (.bl true) st := by
  have e : oEqN false ctN (opTab ctS ctM "__eq__" 2 isP2) C s.o s.o st = (C "Step.__eq__" [s.o, s.o] st).bind fun v st => tellB false v st := by cases s <;> kernel_rfl
  rw [e, he.1 s s st so so, decide_eq_true rfl]
  rfl
theorem zip_sp : ∀ ss : List Sp, List.zipWith (fun x y => D.tup [x, y]) (ss.map Sp.o) (ss.map Sp.d) = ss.map fun s => .tup [s.o, s.d]
  | [] => rfl
  | s :: ss => by
    rw [List.map_cons, List.map_cons, List.zipWith_cons_cons, zip_sp ss]
    rfl
theorem ok_is {C C' : FEnv} (e : C' "_law_is" = body 5 b_law_is C) (hn : IsChainN C) (hc : IsChainS C) (hcr : IsChainR C) (hsd : IsSaid C) (hst : IsSteps C) (he : IsStEq C) (hm : IsSpMade C) : IsIs C' := fun ss st hs hl => by
  rw [e]
  unfold b_law_is
  simp only [keep_all]
  have st1 := fun st => at_steps hst ss st
  have iT : ∀ os : List D, dIsO ctN [.tup os, .ty "tuple"] = some (.bl true) := fun os => by kernel_rfl
  have n1 := fun st => len_chn hn hl st
  have n0 : dLen [chn ss] = none := rfl
  have n2 : dLen [.lst (ss.map Sp.d)] = some (.int (ss.length : Nat)) := by
    show some (D.int (((ss.map Sp.d).length : Nat) : Int)) = _
    rw [List.length_map]
  have n3 : dLen [.tup (ss.map Sp.o)] = some (.int (ss.length : Nat)) := by
    show some (D.int (((ss.map Sp.o).length : Nat) : Int)) = _
    rw [List.length_map]
  obtain ⟨tr, r1⟩ := (rp_nat (len60 hl)).repr (by decide) (by decide)
  have s1 : dStr [.int ((ss.length : Nat) : Int)] = some (.str (nt ss.length)) := str_nt (len60 hl)
  have x1 : ∀ x : Str, dNe (.str x) (.str x) = some (.bl false) := fun x => by
    show some (D.bl (!(x == x))) = _
    rw [beq_self_eq_true]
    rfl
  have x2 : ∀ x : Str, dEq (.str x) (.str x) = some (.bl true) := fun x => by
    show some (D.bl (x == x)) = _
    rw [beq_self_eq_true]
  have x1a := x1 tr
  have x2a := x2 (jn ss)
  have x2b := x2 (chR ss.length)
  have b0 : dBool [chn ss] = none := rfl
  have b1 := fun st => chn_bool hn hl st
  have sp : dNe (.lst (ss.map Sp.d)) (.lst []) = some (.bl (!decide (ss = []))) := dne_specs (ts := []) hs (by simp)
  have bb : dNe (.bl (((ss.length : Nat) : Int) != 0)) (.bl (!decide (ss = []))) = some (.bl false) := by
    cases ss with
    | nil => kernel_rfl
    | cons s ss =>
      have q : ((((s :: ss).length : Nat) : Int) != 0) = true := by
        rw [bne_iff_ne, List.length_cons]
        omega
      rw [q, decide_eq_false (by simp)]
      kernel_rfl
  have e2 : dNe (.int (ss.length : Nat)) (.int (ss.length : Nat)) = some (.bl false) := by rw [dNe_int]; simp
  have t0 : dStr [chn ss] = none := rfl
  have t1 := fun st => chn_txt hc hs hl st
  have t2 := fun st => hsd ss st hs hl
  have u0 : dRepr [chn ss] = none := rfl
  have u1 := fun st => chn_rep hcr hl st
  have mo : ∀ (C : FEnv) st, attrD C "MOST" (attrTab ctA "MOST") (chn ss) st = .ok (.int 60) st := fun C st => by kernel_rfl
  have a1 : dAdd (.str "Chain(") (.str (nt ss.length)) = some (.str (("Chain(" : Str) ++ nt ss.length)) := add_str (by
    have l1 : ("Chain(" : Str).length = 6 := by decide +kernel
    have := nt60 hl
    omega)
  have a2 : dAdd (.str (("Chain(" : Str) ++ nt ss.length)) (.str ")") = some (.str (chR ss.length)) := add_str (by
    have l1 : ("Chain(" : Str).length = 6 := by decide +kernel
    have l2 : (")" : Str).length = 1 := by decide +kernel
    have := nt60 hl
    rw [app_len]
    omega)
  have z1 : dZip [.tup (ss.map Sp.o), .lst (ss.map Sp.d)] = some (ss.map fun s => .tup [s.o, s.d]) := by
    show some (List.zipWith (fun x y => D.tup [x, y]) (ss.map Sp.o) (ss.map Sp.d)) = _
    rw [zip_sp]
  have l1 : (ss.map fun s => D.tup [s.o, s.d]).length < sizeLine := by
    rw [List.length_map]
    exact Nat.lt_of_lt_of_le (by omega) line_1000
  have fin : ∀ st, Gives (eAll [3, 4] (eIter (eVar 2)) (.tp [.nm 3, .nm 4]) (eBinC (oEq false ctN (opTab ctS ctM "__eq__" 2 isP2) dEq) (eVar 3) (eCallK "_law_made" [.pos 0] (aCons (eVar 4) aNil) aNil)) C [.val (chn ss), .val (.lst (ss.map Sp.d)), .val (.lst (ss.map fun s => .tup [s.o, s.d])), .un, .un] st)
      fun d st' => d = .bl true ∧ ∃ l, st' = st ++ l := fun st => by
    refine all_comp (I := fun st' => ∃ l, st' = st ++ l) (J := fun xs => xs = ss.map fun s => .tup [s.o, s.d]) ?_ ?_
    · generalize (ss.map fun s => D.tup [s.o, s.d]) = zz at *
      generalize chn ss = cs at *
      generalize ss.map Sp.d = ds at *
      walk_at "ev"
      exact ⟨_, _, rfl, l1, rfl, [], by simp⟩
    · rintro _ rfl x hx st5 ⟨l, rfl⟩
      obtain ⟨s, hm', rfl⟩ := List.mem_map.mp hx
      have m1 := fun st => hm s st (hs s hm')
      have g0 : dEq s.o s.o = none := by cases s <;> rfl
      have g1 := fun st => eq_sp he (hs s hm') st
      generalize (ss.map fun s => D.tup [s.o, s.d]) = zz at *
      generalize s.o = o1 at *
      generalize s.d = d1 at *
      generalize chn ss = cs at *
      generalize ss.map Sp.d = ds at *
      simp_arith [m1, ↓g0, g1, wipeR]
      exact ⟨_, _, rfl, rfl, _, (List.append_assoc _ _ _)⟩
  generalize (ss.map fun s => D.tup [s.o, s.d]) = zz at *
  generalize jn ss = j at *
  generalize chR ss.length = cr at *
  generalize ("Chain(" : Str) ++ nt ss.length = cp at *
  generalize nt ss.length = tn at *
  generalize chn ss = cs at *
  generalize ss.map Sp.d = ds at *
  generalize ss.map Sp.o = os at *
  generalize (((ss.length : Nat) : Int) != 0) = bn at *
  generalize (!decide (ss = [])) = be at *
  generalize ((ss.length : Nat) : Int) = sl at *
  simp_arith [st1, iT, ↓n0, n1, ↓n2, ↓r1, ↓x1a, ↓b0, b1, ↓sp, ↓bb, ↓z1]
  refine Gives.bind (fin st) ?_
  rintro _ st2 ⟨rfl, l, rfl⟩
  simp_arith [st1, ↓n3, ↓n2, ↓e2, ↓t0, t1, t2, ↓x2a, ↓u0, u1, ↓s1, ↓a1, ↓a2, ↓x2b, mo]
  exact ⟨_, _, rfl, rfl, l, rfl⟩
/-! ### _law_right -/
theorem few_any {C : FEnv} (h : IsFew C) {p : Nat} {m : Int} {st : Store} (hp : PoolAt p st) (h0 : 0 ≤ m) (h1 : m < 900) : Gives (C "_law_few" [.cell p, .int m, .bl true] st) fun d st' => ∃ ss : List Sp, d = .lst (ss.map Sp.d) ∧ (∀ s ∈ ss, s.ok) ∧ (ss.length : Int) ≤ m ∧ PoolAt p st' := h p m true st hp h0 h1
theorem read_g {C : FEnv} (h : IsChRead C) {ss : List Sp} (hs : ∀ s ∈ ss, s.ok) (hl : ss.length ≤ 60) (st : Store) : Gives (C "Chain.read" [.cls "Chain", .str (jn ss)] st) fun d st' => d = chn ss ∧ ∃ l, st' = st ++ l := by
  obtain ⟨l, q⟩ := h ss st hs hl
  exact ⟨_, _, q, rfl, l, rfl⟩
theorem ok_right {C C' : FEnv} (e : C' "_law_right" = body 3 b_law_right C) (hf : IsFew C) (hp' : IsPassed C) (hl : IsChainL C) (hi : IsIs C) (hrd : IsChRead C) (hsd : IsSaid C) : IsRight C' := fun p st hp => by
  rw [e]
  unfold b_law_right
  have hr4 := dRng_one (j := 4) (by decide) (by decide)
  simp_arith [hr4]
  refine Gives.bind (forGo_inv (I := fun r st' => (∃ x1 x2, r = [.val (.cell p), x1, x2]) ∧ PoolAt p st') _ _ _ ?_ ⟨⟨_, _, rfl⟩, hp⟩) ?_
  · rintro x hx r st4 ⟨⟨x1, x2, rfl⟩, hp4⟩
    walk_at "ev"
    refine Gives.bind (few_any hf hp4 (by decide) (by decide)) ?_
    rintro _ st5 ⟨ss, rfl, so, sl, hp5⟩
    have q1 := fun st => hp' ss st so (by omega)
    have q2 := fun st => hl ss st so (by omega)
    have q3 := fun st => hi ss st so (by omega)
    have t2 := fun st => hsd ss st so (by omega)
    have rd := fun st => read_g hrd so (show ss.length ≤ 60 by omega) st
    generalize ss.map Sp.d = ds at *
    generalize chn ss = cs at *
    generalize jn ss = j at *
    walk_at "ev"
    refine Gives.bind (q1 _) ?_
    rintro _ st6 ⟨rfl, l6, rfl⟩
    walk_at "ev"
    refine Gives.bind (q3 _) ?_
    rintro _ st7 ⟨rfl, l7, rfl⟩
    walk_at "ev"
    refine Gives.bind (q2 _) ?_
    rintro _ st8 ⟨rfl, l8, rfl⟩
    walk_at "ev"
    refine Gives.bind (q3 _) ?_
    rintro _ st9 ⟨rfl, l9, rfl⟩
    simp_arith [t2]
    refine Gives.bind (rd _) ?_
    rintro _ st10 ⟨rfl, l10, rfl⟩
    walk_at "ev"
    refine Gives.bind (q3 _) ?_
    rintro _ st11 ⟨rfl, l11, rfl⟩
    walk_at "ev"
    exact ⟨_, _, rfl, _, .inl rfl, ⟨_, _, rfl⟩, hp5.app.app.app.app.app.app⟩
  rintro _ st4 ⟨r4, rfl, ⟨x1, x2, rfl⟩, hp4⟩
  walk_at "ev"
  refine Gives.bind (few_any hf hp4 (by decide) (by decide)) ?_
  rintro _ st5 ⟨ss, rfl, so, sl, hp5⟩
  have q2 := fun st => hl ss st so (by omega)
  have q3 := fun st => hi ss st so (by omega)
  have e60 : dEq (.int 60) (.int 60) = some (.bl true) := by kernel_rfl
  generalize ss.map Sp.d = ds at *
  generalize chn ss = cs at *
  walk_at "ev"
  refine Gives.bind (q2 _) ?_
  rintro _ st8 ⟨rfl, l8, rfl⟩
  walk_at "ev"
  refine Gives.bind (q3 _) ?_
  rintro _ st9 ⟨rfl, l9, rfl⟩
  simp_arith [↓e60]
  exact ⟨_, _, rfl, rfl⟩
/-! ## the law -/
theorem ok_law {C C' : FEnv} (e : C' "law" = body 3 b_law C) (hc : IsCell C) (hq : IsPool C) (hr : IsRight C) (hi : IsIs C) (hI : IsChainI C) (hT : IsTurnI C) (ns : List Int) (hn : ns.length ≤ 63) (st : Store) : Gives (C' "law" [.scr ns] st) fun d _ => d = .bl true := by
  rw [e]
  unfold b_law
  simp only [keep_all]
  have i0 : ∀ st : Store, C "Chain.__init__" [.cell st.length, .tup []] (st ++ [.obj "Chain" [] []]) = .ok .non (st ++ [.obj "Chain" ["held"] [.tup []]]) := fun st => hI [] st (by decide)
  have e0 : D.obj "Chain" ["held"] [.tup []] = chn [] := rfl
  have t1 : ∀ st : Store, C "Turn.__init__" [.cell st.length, .int 1] (st ++ [.obj "Turn" [] []]) = .ok .non (st ++ [.obj "Turn" ["times"] [.int 1]]) := fun st => hT 1 st (by decide) (by decide)
  have i2 : ∀ st : Store, C "Chain.__init__" [.cell st.length, .tup [.obj "Turn" ["times"] [.int 1], .obj "Turn" ["times"] [.int 1]]] (st ++ [.obj "Chain" [] []]) = .ok .non (st ++ [.obj "Chain" ["held"] [.tup [.obj "Turn" ["times"] [.int 1], .obj "Turn" ["times"] [.int 1]]]]) := fun st => hI [.tn 1, .tn 1] st (by decide)
  have e2 : D.obj "Chain" ["held"] [.tup [.obj "Turn" ["times"] [.int 1], .obj "Turn" ["times"] [.int 1]]] = chn [.tn 1, .tn 1] := rfl
  have m2 : dMulT (.lst [.tup [.str "turn", .int 1]]) (.int 2) = some (.lst [.tup [.str "turn", .int 1], .tup [.str "turn", .int 1]]) := by
    have z : dMul (.lst [.tup [.str "turn", .int 1]]) (.int 2) = some (.lst [.tup [.str "turn", .int 1], .tup [.str "turn", .int 1]]) := dMul_lst ⟨by decide, by decide, Nat.le_trans (show 1 * 2 ≤ 1000 by decide) line_1000⟩
    unfold dMulT
    rw [z]
  have q0 : ∀ st, Gives (C "_law_is" [chn [], .lst []] st) fun d st' => d = .bl true ∧ ∃ l, st' = st ++ l := fun st => hi [] st (by simp) (by decide)
  have q2 : ∀ st, Gives (C "_law_is" [chn [.tn 1, .tn 1], .lst [.tup [.str "turn", .int 1], .tup [.str "turn", .int 1]]] st) fun d st' => d = .bl true ∧ ∃ l, st' = st ++ l := fun st => hi [.tn 1, .tn 1] st (fun s hs => by
    simp only [List.mem_cons, List.not_mem_nil, or_false, or_self] at hs
    rw [hs]
    exact .inl rfl) (by decide)
  generalize chn [] = c0 at *
  generalize chn [.tn 1, .tn 1] = c2 at *
  simp_arith [t1, i2, e2, ↓m2, List.drop_succ_cons, List.drop_zero]
  refine Gives.bind (q2 _) ?_
  rintro _ st1 ⟨rfl, l1, rfl⟩
  simp_arith [i0, e0, List.drop_succ_cons, List.drop_zero]
  refine Gives.bind (q0 _) ?_
  rintro _ st2 ⟨rfl, l2, rfl⟩
  walk_at "ev"
  refine Gives.bind (all_cells3 hc hq hr hn (b := 6) (i := 2) ?_ rfl (by decide) (by decide) (by decide) (by simp)) ?_
  · have z : dLen [.scr ns] = some (.int (ns.length : Nat)) := rfl
    simp_arith [z]
  rintro _ st7 rfl
  walk_at "ev"
  exact ⟨_, _, rfl, rfl⟩
theorem law_true : ∀ ns : List Int, ns.length ≤ 63 → ∃ st, sem (defs.map rowOf) 10 "law" [.scr ns] [] = .ok (.bl true) st := by
  intro ns hn
  have A := fun (i : DefI) (hi : i ∈ defs) n => sem_at text hi n
  have wh := fun n => ok_whole (A i_is_whole (by simp [defs]) n)
  have bo := fun n => ok_box (A i_check_box (by simp [defs]) (n + 1)) (wh n)
  have iS0 := fun n => ok_scalI (c := "Shrink") (A i_Scaling___init__ (by simp [defs]) (n + 2)) (bo n) (by kernel_rfl) (by kernel_rfl) (by kernel_rfl)
  have iG0 := fun n => ok_scalI (c := "Grow") (A i_Scaling___init__ (by simp [defs]) (n + 2)) (bo n) (by kernel_rfl) (by kernel_rfl) (by kernel_rfl)
  have iS := fun n => ok_shrinkI (A i_Shrink___init__ (by simp [defs]) (n + 3)) (iS0 n)
  have iG := fun n => ok_growI (A i_Grow___init__ (by simp [defs]) (n + 3)) (iG0 n)
  have kp := fun n => ok_keep (A i_check_keep (by simp [defs]) n)
  have iW0 := fun n => ok_cropI0 (c := "CropWidth") (wd := "width") (A i_Crop___init__ (by simp [defs]) (n + 2)) (bo n) (by kernel_rfl) (by kernel_rfl) (by kernel_rfl) (by kernel_rfl) (fun k st h => (kp (n + 1) k st).1 (by rcases h with h | h; exact h.2; exact absurd h.1 (by decide +kernel)))
  have iH0 := fun n => ok_cropI0 (c := "CropHeight") (wd := "height") (A i_Crop___init__ (by simp [defs]) (n + 2)) (bo n) (by kernel_rfl) (by kernel_rfl) (by kernel_rfl) (by kernel_rfl) (fun k st h => (kp (n + 1) k st).2 (by rcases h with h | h; exact absurd h.1 (by decide +kernel); exact h.2))
  have iW := fun n => ok_cropwidthI (A i_CropWidth___init__ (by simp [defs]) (n + 3)) (iW0 n)
  have iH := fun n => ok_cropheightI (A i_CropHeight___init__ (by simp [defs]) (n + 3)) (iH0 n)
  have iT := fun n => ok_turnI (A i_Turn___init__ (by simp [defs]) (n + 1)) (wh n)
  have po' := fun n => ok_partsof (A i_parts_of (by simp [defs]) n)
  have wr := fun n => ok_written (A i_written (by simp [defs]) (n + 1)) (po' n)
  have ss := fun n => ok_ststr (A i_Step___str__ (by simp [defs]) (n + 2)) (wr n)
  have eq := fun n => ok_stEq (A i_Step___eq__ (by simp [defs]) (n + 1)) (po' n)
  have ce := fun n => ok_cell (A i_law_cell (by simp [defs]) n)
  have po := fun n => ok_pool (A i_law_pool (by simp [defs]) n)
  have dr := fun n => ok_draw (A i_law_draw (by simp [defs]) n)
  have sd0 := fun n => ok_side0 (A i_law_side (by simp [defs]) (n + 1)) (dr n)
  have dw := fun n => ok_drawn (A i_law_drawn (by simp [defs]) (n + 2)) (dr (n + 1)) (sd0 n)
  have fw := fun n => ok_few (A i_law_few (by simp [defs]) (n + 3)) (dr (n + 2)) (dw n)
  have ma := fun n => ok_spmade (A i_law_made (by simp [defs]) (n + 4)) (iS n) (iG n) (iW n) (iH n) (iT (n + 2))
  have ct' := fun n => ok_count (A i_check_count (by simp [defs]) n)
  have kc := fun n => ok_chkChain (A i_check_chain (by simp [defs]) n)
  have ci := fun n => ok_chainI (A i_Chain___init__ (by simp [defs]) (n + 1)) (ct' n)
  have ca := fun n => ok_chainA (A i_Chain___add__ (by simp [defs]) (n + 2)) (kc (n + 1)) (ct' (n + 1)) (ci n)
  have cn := fun n => ok_chainN (A i_Chain___len__ (by simp [defs]) n)
  have cs := fun n => ok_steps (A i_Chain_steps (by simp [defs]) n)
  have crp := fun n => ok_chainR (A i_Chain___repr__ (by simp [defs]) n)
  have cstr := fun n => ok_chainS (A i_Chain___str__ (by simp [defs]) (n + 3)) (ss n)
  have sh := fun n => ok_shows (A i_law_shown (by simp [defs]) n)
  have sa := fun n => ok_said (A i_law_said (by simp [defs]) (n + 1)) (sh n)
  have cl := fun n => ok_chainL (A i_law_chain (by simp [defs]) (n + 5)) (ma n) (ci (n + 3)) (ca (n + 2))
  have pa := fun n => ok_passed (A i_law_passed (by simp [defs]) (n + 5)) (ma n) (ci (n + 3))
  have is' := fun n => ok_is (A i_law_is (by simp [defs]) (n + 5)) (cn (n + 4)) (cstr (n + 1)) (crp (n + 4)) (sa (n + 3)) (cs (n + 4)) (eq (n + 3)) (ma n)
  have r1 := fun n => ok_rdside (A i_read_side (by simp [defs]) n)
  have r2 := fun n => ok_rdsides (A i_read_sides_steps (by simp [defs]) (n + 1)) (r1 n)
  have r3 := fun n => ok_rdscal (A i_read_scaling (by simp [defs]) (n + 4)) (r2 (n + 2)) (iS n) (iG n)
  have r4 := fun n => ok_rdcrop (A i_read_crop (by simp [defs]) (n + 4)) (r2 (n + 2)) (iW n) (iH n)
  have r5 := fun n => ok_rdstep (A i_read_step (by simp [defs]) (n + 5)) (r3 n) (r4 n) (iT (n + 3))
  have si := fun n => ok_stepsIn (A i_steps_in (by simp [defs]) (n + 6)) (r5 n) (eq (n + 4))
  have cr := fun n => ok_chRead (A i_Chain_read (by simp [defs]) (n + 7)) (si n) (ci (n + 5))
  have ri := ok_right (A i_law_right (by simp [defs]) 8) (fw 4) (pa 2) (cl 2) (is' 2) (cr 0) (sa 6)
  obtain ⟨d, st, h, rfl⟩ := ok_law (A i_law (by simp [defs]) 9) (ce 8) (po 8) ri (is' 3) (ci 7) (iT 7) ns hn []
  exact ⟨st, h⟩
end DS
namespace DS
open PySem L2 PyProof.Rows
theorem head_facts {P : Program} {w : World} {K : PySem.W.Frag} {h : Heap} {mg : Str → Option Value} {f : Addr} (X : K.In h) (G : h.Ns mainGlobals mg) (hfa : mg ("law" : Str) = some (.ref f)) (c : obsX factL fnL ct.dcs K = valX fnL ct.dcs w) :
    ∃ fd : FuncData, (∀ (s : Shared) (u : Value), BindsTo s fd ⟨[u], []⟩ [("_law_script", u)]) ∧ ∀ base : Heap, FnG P w K mg base 30 f fd ["_law_script"] (Prom K 1 (sem (defs.map rowOf) 10 "law")) := by
  obtain ⟨O, hfr⟩ := kOk X G (by intro i hi; simp only [defs, List.mem_cons, List.not_mem_nil, or_false] at hi; rcases hi with rfl | rfl | rfl | rfl | rfl | rfl | rfl | rfl | rfl | rfl | rfl | rfl | rfl | rfl | rfl | rfl | rfl | rfl | rfl | rfl | rfl | rfl | rfl | rfl | rfl | rfl | rfl | rfl | rfl | rfl | rfl | rfl | rfl | rfl | rfl | rfl | rfl | rfl | rfl | rfl | rfl | rfl | rfl | rfl | rfl | rfl | rfl <;> rfl) (by intro i hi hn; simp only [defs, List.mem_cons, List.not_mem_nil, or_false] at hi; rcases hi with rfl | rfl | rfl | rfl | rfl | rfl | rfl | rfl | rfl | rfl | rfl | rfl | rfl | rfl | rfl | rfl | rfl | rfl | rfl | rfl | rfl | rfl | rfl | rfl | rfl | rfl | rfl | rfl | rfl | rfl | rfl | rfl | rfl | rfl | rfl | rfl | rfl | rfl | rfl | rfl | rfl | rfl | rfl | rfl | rfl | rfl | rfl <;> first | rfl | cases hn) c
  obtain ⟨fd, F⟩ := O.fn i_law (by simp [defs])
  have m1 := O.glo i_law (by simp [defs]) rfl
  have e := hfa.symm.trans m1
  cases e
  have b := FunD.bindsA (ps := i_law.ps) F fun _ _ _ _ _ _ us hl => match us, hl with | [_], _ => rfl
  exact ⟨fd, fun s u => b s [u] rfl, fun base => fn_law text O hfr 9 (by simp [defs]) F⟩
end DS
open PySem PySem.W PySem.Calls PyProof.Rows
set_option maxRecDepth 100000 in
set_option maxHeartbeats 0 in
theorem PySem.Challenge.cw_sizechains_k24_chains_made_holds : PySem.Challenge.rw_sizechains_k24_chains_made.Holds := by
  w_on; o_law
  refine HandSHeadRun.head_any (r := DS.R0) (q := view DS.R0.prog [86]) (H := DS.hk) (ob := DS.ob) (M := 14000) (loose := DS.loose) (d := HandSHeadRun.topDef DS.R0.prog 86) (kwd := []) DS.ob_eq
    (by kernel_rfl) (fun s => by kernel_rfl) DS.run0 (by kernel_rfl) (by kernel_rfl) (by kernel_rfl) (by rfl) (by first | assumption | decide +kernel) (by decide +kernel) ⟨rfl, rfl, rfl, rfl, rfl, by decide +kernel⟩ ?hw ?hc
  case hw => w_witness2
  case hc =>
    refine DS.walk_g (l := PySem.Challenge.rw_sizechains_k24_chains_made) (n := 63) (k := 3 * 10) (x := "_law_script") (g := DS.sem (DS.defs.map DS.rowOf) 10 "law") rfl (by decide) (by kernel_rfl) ⟨rfl, by decide, by decide⟩ DS.law_true ?F
    intro w mg fa h Y G hmg0
    obtain ⟨K, KX, c⟩ := Y
    have hmg : mg ("law" : PySem.Str) = some (.ref fa) := by
      have e : (HandSHeadRun.topDef DS.R0.prog 86).name = ("law" : PySem.Str) := by kernel_rfl
      rw [← e]
      exact hmg0
    obtain ⟨fd, hb, hF⟩ := DS.head_facts (P := (PySem.Challenge.rw_sizechains_k24_chains_made).prog) (w := w) KX G hmg c
    exact ⟨K, fd, KX, hb, hF⟩
