import PyProof.Rows.All
import Wide.All
import OpenK.AllK
import Wide.FinOn
import HandS.ForMost
import HandS.Walk
import HandS.Exc
import HandS.TryOnly
import HandS.ExcOwn
import HandS.WordsExc
import HandS.IsInst
import HandS.ExcCtx
import HandS.HotCalls
import HandS.ExcIs
import HandS.TupMul
import HandS.SetFor
import HandS.StrMore
import HandS.SortInts
import HandS.Style
import HandS.Deep
import HandS.TupLe
import HandS.Zip
import HandS.TupAny
import PySem.PyData
import PySem.Value
import KE.KxIndex
import HandS.Replace
import KE.DataFind
import HandS.Strs
import KE.SortData
import KE.GoesMore
import PyProof.Draws
import PyProof.EnumMake
import KE.GoesZip
import HandS.TupSets
import KE.KeyNested
import KE.RegKIsAll
import PySem.Challenge.RW_inkcarriage_k08_whole_keys_for
set_option Elab.async false
set_option linter.all false
set_option maxRecDepth 100000
section
set_option maxHeartbeats 0
namespace DL
open PySem

inductive D where
  | non
  | bl (b : Bool)
  | int (i : Int)
  | str (s : Str)
  | tup (xs : List D)
  | lst (xs : List D)
  | ref (a : Addr)
  | scr (ns : List Int)
  | ty (n : String)

abbrev DKey := Sum Int Str
inductive MO where
  | lst (ds : List D)
  | ins (C : Addr) (fs : List (Str × D))
  | dct (kvs : List (DKey × D))

abbrev Store := Addr → Option MO
def sup (m : Store) (a : Addr) (o : MO) : Store := fun b => if b = a then some o else m b
def sdel (m : Store) (a : Addr) : Store := fun b => if b = a then none else m b
theorem sup_same {m : Store} {a : Addr} {o : MO} : sup m a o a = some o := by unfold sup; rw [if_pos rfl]
theorem sup_ne {m : Store} {a b : Addr} {o : MO} (h : b ≠ a) : sup m a o b = m b := by unfold sup; rw [if_neg h]
theorem sup_sup {m : Store} {a : Addr} {o u : MO} : sup (sup m a o) a u = sup m a u := by
  funext b; unfold sup; split <;> rfl
theorem sup_swap {m : Store} {a b : Addr} {o u z : MO} (h : a ≠ b) : sup (sup (sup m a o) b u) a z = sup (sup m a z) b u := by
  funext c; unfold sup
  by_cases h1 : c = a
  · subst h1; rw [if_pos rfl, if_neg h, if_pos rfl]
  · rw [if_neg h1]
    by_cases h2 : c = b
    · rw [if_pos h2, if_pos h2]
    · rw [if_neg h2, if_neg h2, if_neg h1, if_neg h1]
theorem sup_comm {m : Store} {a b : Addr} {o u : MO} (h : a ≠ b) : sup (sup m a o) b u = sup (sup m b u) a o := by
  funext c; unfold sup
  by_cases h1 : c = a
  · subst h1; rw [if_neg h, if_pos rfl, if_pos rfl]
  · by_cases h2 : c = b
    · subst h2; rw [if_pos rfl, if_neg h1, if_pos rfl]
    · rw [if_neg h2, if_neg h1, if_neg h1, if_neg h2]
theorem sdel_sup {m : Store} {a : Addr} {o : MO} (h : m a = none) : sdel (sup m a o) a = m := by
  funext c; unfold sdel sup
  by_cases h1 : c = a
  · subst h1; rw [if_pos rfl, h]
  · rw [if_neg h1, if_neg h1]
theorem ne_sto {m : Store} {a b : Addr} {o : MO} (h : m a = some o) (h' : m b = none) : a ≠ b := by
  intro e; subst e; rw [h] at h'; cases h'

def Sub (m m' : Store) : Prop := ∀ a o, m a = some o → m' a = some o
theorem Sub.refl (m : Store) : Sub m m := fun _ _ h => h
theorem Sub.trans {a b c : Store} (h : Sub a b) (h' : Sub b c) : Sub a c := fun x o e => h' x o (h x o e)
theorem Sub.new {m : Store} {a : Addr} {o : MO} (h : m a = none) : Sub m (sup m a o) := fun b u e => by
  rw [sup_ne (ne_sto e h)]; exact e

abbrev Env := List (Option D)
def get : Env → Nat → Option D
  | [], _ => none
  | x :: _, 0 => x
  | _ :: r, i + 1 => get r i
def put : Env → Nat → Option D → Env
  | [], _, _ => []
  | _ :: r, 0, d => d :: r
  | x :: r, i + 1, d => x :: put r i d
def wipeD (e : Env) : List Nat → Env
  | [] => e
  | v :: vs => put (wipeD e vs) v none
theorem put_eq_set : ∀ (e : Env) (i : Nat) (d : Option D), put e i d = e.set i d
  | [], _, _ => rfl
  | _ :: _, 0, _ => rfl
  | x :: r, i + 1, d => by show x :: put r i d = x :: r.set i d; rw [put_eq_set r i d]
theorem get_eq : ∀ (e : Env) (i : Nat), get e i = (e[i]?).bind id
  | [], _ => by simp [get]
  | x :: _, 0 => by simp [get]
  | x :: r, i + 1 => by simp [get, get_eq r i]

abbrev KD := D → Store → Prop
abbrev XD := Addr → Store → Prop
abbrev WE := Env → Store → KD → XD → Prop
abbrev WA := Env → Store → (List D → Store → Prop) → XD → Prop
abbrev WT := Env → Store → (Bool → Store → Prop) → XD → Prop
structure SK where
  nx : Env → Store → Prop
  rt : KD
  ex : XD
  bk : Env → Store → Prop
  ct : Env → Store → Prop
abbrev WS := Env → Store → SK → Prop
abbrev FW := List D → Store → KD → XD → Prop
abbrev W2 := D → D → Store → KD → Prop
abbrev W1 := D → Store → KD → Prop
abbrev WL := List D → Store → KD → Prop

def LIM : Nat := 16777216
def ok {α : Type} (o : Option α) (k : α → Prop) : Prop := match o with | some a => k a | none => False
@[simp] theorem ok_some {α : Type} {a : α} {k : α → Prop} : ok (some a) k = k a := rfl
@[simp] theorem ok_none {α : Type} {k : α → Prop} : ok none k = False := rfl
theorem ok_iff {α : Type} {o : Option α} {k : α → Prop} : ok o k ↔ ∃ a, o = some a ∧ k a := by
  cases o with
  | none => exact ⟨fun h => h.elim, fun ⟨_, h, _⟩ => nomatch h⟩
  | some a => exact ⟨fun h => ⟨a, rfl, h⟩, fun ⟨b, e, h⟩ => by cases e; exact h⟩

def wVar (i : Nat) : WE := fun r m R _ => ok (get r i) fun d => R d m
def wC (d : D) : WE := fun _ m R _ => R d m
def wOp (w : W2) (a b : WE) : WE := fun r m R x => a r m (fun u m1 => b r m1 (fun v m2 => w u v m2 R) x) x
def wUn (w : W1) (a : WE) : WE := fun r m R x => a r m (fun u m1 => w u m1 R) x
def wNil : WA := fun _ m R _ => R [] m
def wCons (a : WE) (b : WA) : WA := fun r m R x => a r m (fun u m1 => b r m1 (fun us m2 => R (u :: us) m2) x) x
def wTup (a : WA) : WE := fun r m R x => a r m (fun us m1 => us.length ≤ LIM ∧ R (.tup us) m1) x
def wNw : Bool → List D → Store → KD → Prop
  | true, ds, m, R => ∀ a, m a = none → R (.ref a) (sup m a (.lst ds))
  | false, ds, m, R => R (.lst ds) m
def wLst (b : Bool) (a : WA) : WE := fun r m R x => a r m (fun us m1 => us.length ≤ LIM ∧ wNw b us m1 R) x
def wFrz (a : WE) : WE := fun r m R x => a r m (fun u m1 => ∃ b ds, u = .ref b ∧ m1 b = some (.lst ds) ∧ R (.lst ds) (sdel m1 b)) x
def wCallB (w : WL) (a : WA) : WE := fun r m R x => a r m (fun us m1 => w us m1 R) x
def wCall (n : Nat) (f : FW) (a : WA) : WE := fun r m R x => a r m (fun us m1 => us.length = n ∧ f us m1 R x) x
def wIf (t : WT) (a b : WE) : WE := fun r m R x => t r m (fun c m1 => if c = true then a r m1 R x else b r m1 R x) x
def wTest (a : WE) : WT := fun r m R x => a r m (fun u m1 => match u with | .bl b => R b m1 | _ => False) x
def wAnd (a b : WT) : WT := fun r m R x => a r m (fun c m1 => if c = true then b r m1 R x else R false m1) x
def wOr (a b : WT) : WT := fun r m R x => a r m (fun c m1 => if c = true then R true m1 else b r m1 R x) x
def wNot (a : WT) : WT := fun r m R x => a r m (fun c m1 => R (!c) m1) x
def wOf (a : WT) : WE := fun r m R x => a r m (fun c m1 => R (.bl c) m1) x
def wChain (w w' : W2) (a b c : WE) : WE := fun r m R x => a r m (fun u m1 => b r m1 (fun v m2 => w u v m2 fun z m3 => match z with
  | .bl true => c r m3 (fun y m4 => w' v y m4 R) x
  | .bl false => R (.bl false) m3
  | _ => False) x) x

def wNext : WS := fun r m k => k.nx r m
def wSeq (s t : WS) : WS := fun r m k => s r m { k with nx := fun r' m' => t r' m' k }
def wIfS (t : WT) (a b : WS) : WS := fun r m k => t r m (fun c m1 => if c = true then a r m1 k else b r m1 k) k.ex
def wRet (a : WE) : WS := fun r m k => a r m k.rt k.ex
def wRetN : WS := fun r m k => k.rt .non m
def wExp (a : WE) : WS := fun r m k => a r m (fun _ m1 => k.nx r m1) k.ex
def wSet (i : Nat) (a : WE) : WS := fun r m k => a r m (fun u m1 => k.nx (put r i (some u)) m1) k.ex
abbrev WG := D → Env → Store → (Env → Store → Prop) → Prop
def gNm (i : Nat) : WG := fun u r m K => K (put r i (some u)) m
def putAll : Env → List Nat → List D → Env
  | r, i :: is, d :: ds => putAll (put r i (some d)) is ds
  | r, _, _ => r
def gTp (is : List Nat) : WG := fun u r m K => match u with | .tup ds => ds.length = is.length ∧ K (putAll r is ds) m | _ => False
def gLs (is : List Nat) : WG := fun u r m K => match u with | .lst ds => ds.length = is.length ∧ K (putAll r is ds) m | _ => False
def wAsg (a : WE) (g : WG) : WS := fun r m k => a r m (fun u m1 => g u r m1 k.nx) k.ex
def wNever : WS := fun _ _ _ => False
def wRaise (C : Addr) : WS := fun _ m k => k.ex C m

def wForL (G : Store → Prop) (g : WG) (b : WS) : List D → WS
  | [] => fun r m k => G m ∧ k.nx r m
  | d :: ds => fun r m k => G m ∧ g d r m fun r' m' => b r' m' { k with nx := fun r2 m2 => wForL G g b ds r2 m2 k, ct := fun r2 m2 => wForL G g b ds r2 m2 k, bk := k.nx }
abbrev WI := Env → Store → (List D → (Store → Prop) → Store → Prop) → XD → Prop
def wFor (it : WI) (g : WG) (b : WS) : WS := fun r m k => it r m (fun ds G m1 => wForL G g b ds r m1 k) k.ex
def wLcL (G : Store → Prop) (vs : List Nat) (g : WG) (t : WT) (e : WE) (r : Env) : List D → List D → Store → (List D → Store → Prop) → Prop
  | [], acc, m, K => G m ∧ K acc m
  | d :: ds, acc, m, K => G m ∧ g d (wipeD r vs) m fun r' m' => t r' m' (fun c m1 => if c = true then e r' m1 (fun u m2 => acc.length < LIM ∧ wLcL G vs g t e r ds (acc ++ [u]) m2 K) (fun _ _ => False) else wLcL G vs g t e r ds acc m1 K) (fun _ _ => False)
def wYes : WT := fun _ m R _ => R true m
def wLc (b : Bool) (vs : List Nat) (it : WI) (g : WG) (t : WT) (e : WE) : WE := fun r m R x => it r m (fun ds G m1 => wLcL G vs g t e r ds [] m1 fun us m2 => wNw b us m2 R) x

def wWhN (t : WT) (b : WS) : Nat → WS
  | 0 => fun _ _ _ => False
  | n + 1 => fun r m k => t r m (fun c m1 => if c = true then b r m1 { k with nx := fun r2 m2 => wWhN t b n r2 m2 k, ct := fun r2 m2 => wWhN t b n r2 m2 k, bk := k.nx } else k.nx r m1) k.ex
def wWhile (t : WT) (b : WS) : WS := fun r m k => ∃ n, wWhN t b n r m k

def asL (m : Store) : D → Option (List D)
  | .lst xs => some xs
  | .ref a => match m a with | some (.lst xs) => some xs | _ => none
  | _ => none
def asQ (m : Store) : D → Option (List D)
  | .tup xs => some xs
  | .scr ns => some (ns.map .int)
  | d => asL m d
def asI (m : Store) (d : D) (K : List D → (Store → Prop) → Prop) : Prop := match d with
  | .tup xs => K xs fun _ => True
  | .lst xs => K xs fun _ => True
  | .ref a => match m a with
    | some (.lst xs) => K xs fun m' => m' a = some (.lst xs)
    | _ => False
  | .str s => K (s.cps.toList.map fun c => .str ⟨#[c]⟩) fun _ => True
  | _ => False
def iSeq (a : WE) : WI := fun r m K x => a r m (fun u m1 => asI m1 u fun ds G => K ds G m1) x
def rangeD (i j : Int) : List D := (List.range (j - i).toNat).map fun k => .int (i + (k : Nat))
def iRange1 (a : WE) : WI := fun r m K x => a r m (fun u m1 => match u with
  | .int j => -(2 ^ 62) ≤ j ∧ j < 2 ^ 62 ∧ K (rangeD 0 j) (fun _ => True) m1
  | _ => False) x
def iRange2 (a b : WE) : WI := fun r m K x => a r m (fun u m1 => b r m1 (fun v m2 => match u, v with
  | .int i, .int j => (-(2 ^ 62) ≤ i ∧ i < 2 ^ 62 ∧ -(2 ^ 62) ≤ j ∧ j < 2 ^ 62) ∧ K (rangeD i j) (fun _ => True) m2
  | _, _ => False) x) x
def enumD : Nat → List D → List D
  | _, [] => []
  | n, d :: ds => .tup [.int (n : Nat), d] :: enumD (n + 1) ds
def zipD : List D → List D → List D
  | x :: xs, y :: ys => .tup [x, y] :: zipD xs ys
  | _, _ => []
def iEnum (a : WE) : WI := fun r m K x => a r m (fun u m1 => match u with
  | .lst xs => K (enumD 0 xs) (fun _ => True) m1
  | .ref a => match m1 a with
    | some (.lst xs) => K (enumD 0 xs) (fun m' => m' a = some (.lst xs)) m1
    | _ => False
  | .tup xs => K (enumD 0 xs) (fun _ => True) m1
  | .str s => K (enumD 0 (s.cps.toList.map fun c => .str ⟨#[c]⟩)) (fun _ => True) m1
  | _ => False) x
def iZip (a b : WE) : WI := fun r m K x => a r m (fun u m1 => b r m1 (fun v m2 => match u, v with
  | .tup xs, .tup ys => K (zipD xs ys) (fun _ => True) m2
  | .lst xs, .lst ys => K (zipD xs ys) (fun _ => True) m2
  | .lst xs, .tup ys => K (zipD xs ys) (fun _ => True) m2
  | .str s, .str t => K (zipD (s.cps.toList.map fun c => .str ⟨#[c]⟩) (t.cps.toList.map fun c => .str ⟨#[c]⟩)) (fun _ => True) m2
  | _, _ => False) x) x
end DL
end
section
set_option maxHeartbeats 0
namespace DL
open PySem PySem.Spec PyProof.Rows L2

theorem LIM_eq : LIM = sizeLine := by rw [sizeLine_eq]; rfl

mutual
inductive Dp (K : PySem.W.Frag) (B : Hp) : V → D → Prop
  | non : Dp K B .non .non
  | bl (b : Bool) : Dp K B (.bl b) (.bl b)
  | int (i : Int) : Dp K B (.int i) (.int i)
  | str (s : Str) : Dp K B (.str s) (.str s)
  | ty (n : String) : Dp K B (.ty n) (.ty n)
  | ref (a : Addr) : Dp K B (.ref a) (.ref a)
  | tup {a : Addr} {xs : List V} {ds : List D} : SqT K B a xs → DpAll K B xs ds → Dp K B (.ref a) (.tup ds)
  | lst {a : Addr} {xs : List V} {ds : List D} : B a = some (.lst xs) → DpAll K B xs ds → Dp K B (.ref a) (.lst ds)
  | scr {a : Addr} {ns : List Int} : SqL K B a (ns.map V.int) → Dp K B (.ref a) (.scr ns)
inductive DpAll (K : PySem.W.Frag) (B : Hp) : List V → List D → Prop
  | nil : DpAll K B [] []
  | cons {v : V} {vs : List V} {d : D} {ds : List D} : Dp K B v d → DpAll K B vs ds → DpAll K B (v :: vs) (d :: ds)
end

theorem sqT_mono {K : PySem.W.Frag} {B B' : Hp} {a : Addr} {xs : List V} (e : Same B B') (h : SqT K B a xs) : SqT K B' a xs := by
  rcases h with (h | ⟨o, h⟩) | h
  · exact .inl (.inl (e _ _ h))
  · exact .inl (.inr ⟨o, e _ _ h⟩)
  · exact .inr h
section
variable {K : PySem.W.Frag} {B B' : Hp} (e : Same B B')
include e
mutual
theorem Dp.mono : ∀ {v : V} {d : D}, Dp K B v d → Dp K B' v d
  | _, _, .non => .non
  | _, _, .bl b => .bl b
  | _, _, .int i => .int i
  | _, _, .str s => .str s
  | _, _, .ty n => .ty n
  | _, _, .ref a => .ref a
  | _, _, .tup h hs => .tup (sqT_mono e h) (DpAll.mono hs)
  | _, _, .lst h hs => .lst (e _ _ h) (DpAll.mono hs)
  | _, _, .scr h => .scr (e.seq h)
theorem DpAll.mono : ∀ {vs : List V} {ds : List D}, DpAll K B vs ds → DpAll K B' vs ds
  | _, _, .nil => .nil
  | _, _, .cons h hs => .cons (Dp.mono h) (DpAll.mono hs)
end
end
theorem DpAll.length {K : PySem.W.Frag} {B : Hp} : ∀ {vs : List V} {ds : List D}, DpAll K B vs ds → vs.length = ds.length
  | _, _, .nil => rfl
  | _, _, .cons _ h => by simp [DpAll.length h]
theorem DpAll.get {K : PySem.W.Frag} {B : Hp} : ∀ {vs : List V} {ds : List D} {i : Nat} {d : D}, DpAll K B vs ds → ds[i]? = some d → ∃ v, vs[i]? = some v ∧ Dp K B v d
  | _, _, _, _, .nil, e => by simp at e
  | _, _, 0, _, .cons h _, e => by simp at e; subst e; exact ⟨_, rfl, h⟩
  | _, _, i + 1, _, .cons _ h, e => by
    obtain ⟨v, h1, h2⟩ := DpAll.get (i := i) h (by simpa using e)
    exact ⟨v, by simpa using h1, h2⟩
theorem DpAll.append {K : PySem.W.Frag} {B : Hp} : ∀ {vs ws : List V} {ds es : List D}, DpAll K B vs ds → DpAll K B ws es → DpAll K B (vs ++ ws) (ds ++ es)
  | _, _, _, _, .nil, h => h
  | _, _, _, _, .cons h t, h' => .cons h (DpAll.append t h')
theorem DpAll.take {K : PySem.W.Frag} {B : Hp} : ∀ {vs : List V} {ds : List D} (n : Nat), DpAll K B vs ds → DpAll K B (vs.take n) (ds.take n)
  | _, _, 0, _ => .nil
  | _, _, _ + 1, .nil => .nil
  | _, _, n + 1, .cons h t => .cons h (DpAll.take n t)
theorem DpAll.drop {K : PySem.W.Frag} {B : Hp} : ∀ {vs : List V} {ds : List D} (n : Nat), DpAll K B vs ds → DpAll K B (vs.drop n) (ds.drop n)
  | _, _, 0, h => h
  | _, _, _ + 1, .nil => .nil
  | _, _, n + 1, .cons _ t => DpAll.drop n t
theorem DpAll.set {K : PySem.W.Frag} {B : Hp} {v : V} {d : D} (h : Dp K B v d) : ∀ {vs : List V} {ds : List D} (n : Nat), DpAll K B vs ds → DpAll K B (vs.set n v) (ds.set n d)
  | _, _, _, .nil => .nil
  | _, _, 0, .cons _ t => .cons h t
  | _, _, n + 1, .cons g t => .cons g (DpAll.set h n t)
theorem DpAll.reverse {K : PySem.W.Frag} {B : Hp} : ∀ {vs : List V} {ds : List D}, DpAll K B vs ds → DpAll K B vs.reverse ds.reverse
  | _, _, .nil => .nil
  | _, _, .cons h t => by
    rw [List.reverse_cons, List.reverse_cons]
    exact DpAll.append (DpAll.reverse t) (.cons h .nil)
theorem DpAll.erase {K : PySem.W.Frag} {B : Hp} : ∀ {vs : List V} {ds : List D} (n : Nat), DpAll K B vs ds → DpAll K B (vs.eraseIdx n) (ds.eraseIdx n)
  | _, _, _, .nil => by simpa using DpAll.nil
  | _, _, 0, .cons _ t => by simpa using t
  | _, _, n + 1, .cons g t => by simpa using DpAll.cons g (DpAll.erase n t)

def FRel (K : PySem.W.Frag) (B : Hp) : List (Str × V) → List (Str × D) → Prop := Paired fun (p : Str × V) (q : Str × D) => p.1 = q.1 ∧ Dp K B p.2 q.2
def KRel (K : PySem.W.Frag) (B : Hp) : List (Key × V) → List (DKey × D) → Prop := Paired fun (p : Key × V) (q : DKey × D) => p.1 = q.1 ∧ Dp K B p.2 q.2
def MoRep (K : PySem.W.Frag) (B : Hp) : HO → MO → Prop
  | .lst vs, .lst ds => DpAll K B vs ds
  | .ins C _ gs, .ins C' fs => C = C' ∧ FRel K B gs fs
  | .dK gs, .dct kvs => KRel K B gs kvs
  | _, _ => False
theorem paired_mono {α β : Type} {F G : α → β → Prop} (f : ∀ a b, F a b → G a b) : ∀ {xs : List α} {ys : List β}, Paired F xs ys → Paired G xs ys
  | _, _, .nil => .nil
  | _, _, .cons h t => .cons (f _ _ h) (paired_mono f t)
theorem MoRep.mono {K : PySem.W.Frag} {B B' : Hp} (e : Same B B') : ∀ {ho : HO} {mo : MO}, MoRep K B ho mo → MoRep K B' ho mo := by
  intro ho mo h
  cases ho with
  | lst vs => cases mo with
    | lst ds => exact DpAll.mono e h
    | ins => exact h.elim
    | dct => exact h.elim
  | ins C dx gs => cases mo with
    | ins C' fs => exact ⟨h.1, paired_mono (fun _ _ z => ⟨z.1, z.2.mono e⟩) h.2⟩
    | lst => exact h.elim
    | dct => exact h.elim
  | dK gs => cases mo with
    | dct kvs => exact paired_mono (fun _ _ z => ⟨z.1, z.2.mono e⟩) h
    | lst => exact h.elim
    | ins => exact h.elim
  | _ => cases mo <;> exact h.elim
structure SRp (K : PySem.W.Frag) (B H : Hp) (m : Store) : Prop where
  same : Same B H
  obj : ∀ a mo, m a = some mo → B a = none ∧ ∃ ho, H a = some ho ∧ MoRep K B ho mo
structure Frm (B H : Hp) (m : Store) (B' H' : Hp) (m' : Store) : Prop where
  keep : ∀ a ho, H a = some ho → m a = none → H' a = some ho
  out : ∀ a ho, H a = some ho → m a = none → m' a = none
  bout : ∀ a ho, H a = some ho → m a = none → B a = none → B' a = none
theorem Frm.refl {B H : Hp} {m : Store} : Frm B H m B H m := ⟨fun _ _ h _ => h, fun _ _ _ h => h, fun _ _ _ _ h => h⟩
theorem Frm.trans {B H B1 H1 B2 H2 : Hp} {m m1 m2 : Store} (a : Frm B H m B1 H1 m1) (b : Frm B1 H1 m1 B2 H2 m2) : Frm B H m B2 H2 m2 :=
  ⟨fun p ho h n => b.keep p ho (a.keep p ho h n) (a.out p ho h n), fun p ho h n => b.out p ho (a.keep p ho h n) (a.out p ho h n), fun p ho h n z => b.bout p ho (a.keep p ho h n) (a.out p ho h n) (a.bout p ho h n z)⟩
def ERp (K : PySem.W.Frag) (B : Hp) (σ : L2.St) (r : Env) : Prop := σ.length = r.length ∧ ∀ (i : Nat) (d : D), r[i]? = some (some d) → ∃ v, σ[i]? = some (some v) ∧ Dp K B v d
theorem ERp.mono {K : PySem.W.Frag} {B B' : Hp} {σ : L2.St} {r : Env} (e : Same B B') (h : ERp K B σ r) : ERp K B' σ r :=
  ⟨h.1, fun i d q => let ⟨v, a, b⟩ := h.2 i d q; ⟨v, a, b.mono e⟩⟩
theorem ERp.set {K : PySem.W.Frag} {B : Hp} {σ : L2.St} {r : Env} {v : V} {d : D} (h : ERp K B σ r) (i : Nat) (hv : Dp K B v d) : ERp K B (σ.set i (some v)) (put r i (some d)) := by
  rw [put_eq_set]
  refine ⟨by simp [h.1], fun j e q => ?_⟩
  by_cases hj : i = j
  · subst hj
    have hl : i < r.length := by
      rcases Nat.lt_or_ge i r.length with z | z
      · exact z
      · rw [List.getElem?_eq_none (by simpa using z)] at q; cases q
    rw [List.getElem?_set_self hl] at q
    cases q
    exact ⟨v, List.getElem?_set_self (by rw [h.1]; exact hl), hv⟩
  · rw [List.getElem?_set_ne hj] at q
    rw [List.getElem?_set_ne hj]
    exact h.2 j e q
theorem ERp.wipe {K : PySem.W.Frag} {B : Hp} {σ : L2.St} {r : Env} (h : ERp K B σ r) : ∀ vs : List Nat, ERp K B (wipe σ vs) (wipeD r vs)
  | [] => h
  | v :: vs => by
    have ih := ERp.wipe h vs
    unfold L2.wipe wipeD
    rw [put_eq_set]
    refine ⟨by simp [ih.1], fun j e q => ?_⟩
    by_cases hj : v = j
    · subst hj
      rw [List.getElem?_set] at q
      simp at q
    · rw [List.getElem?_set_ne hj] at q
      rw [List.getElem?_set_ne hj]
      exact ih.2 j e q
theorem SRp.sub {K : PySem.W.Frag} {B H : Hp} {m m' : Store} (h : SRp K B H m) (s : Sub m' m) : SRp K B H m' := ⟨h.same, fun a mo e => h.obj a mo (s a mo e)⟩
theorem SRp.frz {K : PySem.W.Frag} {B H : Hp} {m : Store} {p : Addr} {ho : HO} (h : SRp K B H m) (n : H p = none) : Same B (upd B p ho) ∧ SRp K (upd B p ho) (upd H p ho) m ∧ Frm B H m (upd B p ho) (upd H p ho) m := by
  have nb : B p = none := by
    cases q : B p with
    | none => rfl
    | some o => rw [h.same _ _ q] at n; cases n
  have s1 : Same B (upd B p ho) := fun b o e => by rw [upd_ne (ne_of_none e nb)]; exact e
  refine ⟨s1, ⟨fun b o e => ?_, fun a mo e => ?_⟩, fun a o e _ => by rw [upd_ne (ne_of_none e n)]; exact e, fun _ _ _ z => z, fun a o e _ z => by rw [upd_ne (ne_of_none e n)]; exact z⟩
  · by_cases hb : b = p
    · subst hb; rw [upd_same] at e ⊢; exact e
    · rw [upd_ne hb] at e ⊢; exact h.same _ _ e
  · obtain ⟨b1, ho', e1, r1⟩ := h.obj a mo e
    have na : a ≠ p := ne_of_none e1 n
    exact ⟨by rw [upd_ne na]; exact b1, ho', by rw [upd_ne na]; exact e1, r1.mono s1⟩
theorem SRp.new {K : PySem.W.Frag} {B H : Hp} {m : Store} {p : Addr} {ho : HO} {mo : MO} (h : SRp K B H m) (n : H p = none) (r : MoRep K B ho mo) : m p = none ∧ SRp K B (upd H p ho) (sup m p mo) ∧ Frm B H m B (upd H p ho) (sup m p mo) := by
  have nb : B p = none := by
    cases q : B p with
    | none => rfl
    | some o => rw [h.same _ _ q] at n; cases n
  have nm : m p = none := by
    cases q : m p with
    | none => rfl
    | some o => obtain ⟨_, ho', e, _⟩ := h.obj _ _ q; rw [e] at n; cases n
  refine ⟨nm, ⟨fun b o e => by rw [upd_ne (ne_of_none e nb)]; exact h.same _ _ e, fun a mo' e => ?_⟩, fun a o e _ => by rw [upd_ne (ne_of_none e n)]; exact e, fun a o e z => by rw [sup_ne (ne_of_none e n)]; exact z, fun _ _ _ _ z => z⟩
  by_cases ha : a = p
  · subst ha
    rw [sup_same] at e
    cases e
    exact ⟨nb, ho, upd_same, r⟩
  · rw [sup_ne ha] at e
    obtain ⟨b1, ho', e1, r1⟩ := h.obj a mo' e
    exact ⟨b1, ho', by rw [upd_ne ha]; exact e1, r1⟩
theorem SRp.put {K : PySem.W.Frag} {B H : Hp} {m : Store} {p : Addr} {ho : HO} {mo mo0 : MO} (h : SRp K B H m) (hp : m p = some mo0) (r : MoRep K B ho mo) : SRp K B (upd H p ho) (sup m p mo) ∧ Frm B H m B (upd H p ho) (sup m p mo) := by
  obtain ⟨nb, ho0, eh, _⟩ := h.obj _ _ hp
  refine ⟨⟨fun b o e => by rw [upd_ne (ne_of_none e nb)]; exact h.same _ _ e, fun a mo' e => ?_⟩, fun a o e z => by rw [upd_ne (fun q => by subst q; rw [hp] at z; cases z)]; exact e, fun a o e z => by rw [sup_ne (fun q => by subst q; rw [hp] at z; cases z)]; exact z, fun _ _ _ _ z => z⟩
  by_cases ha : a = p
  · subst ha
    rw [sup_same] at e
    cases e
    exact ⟨nb, ho, upd_same, r⟩
  · rw [sup_ne ha] at e
    obtain ⟨b1, ho', e1, r1⟩ := h.obj a mo' e
    exact ⟨b1, ho', by rw [upd_ne ha]; exact e1, r1⟩
theorem SRp.freeze {K : PySem.W.Frag} {B H : Hp} {m : Store} {p : Addr} {ds : List D} (h : SRp K B H m) (hp : m p = some (.lst ds)) : ∃ vs, Same B (upd B p (.lst vs)) ∧ SRp K (upd B p (.lst vs)) H (sdel m p) ∧ Frm B H m (upd B p (.lst vs)) H (sdel m p) ∧ Dp K (upd B p (.lst vs)) (.ref p) (.lst ds) := by
  obtain ⟨nb, ho, eh, rh⟩ := h.obj _ _ hp
  cases ho with
  | lst vs =>
    have s1 : Same B (upd B p (.lst vs)) := fun b o e => by rw [upd_ne (ne_of_none e nb)]; exact e
    refine ⟨vs, s1, ⟨fun b o e => ?_, fun a mo e => ?_⟩, ⟨fun _ _ e _ => e, fun a o e z => ?_, fun a o e n z => by rw [upd_ne (fun q => by subst q; rw [hp] at n; cases n)]; exact z⟩, .lst upd_same (DpAll.mono s1 rh)⟩
    · by_cases hb : b = p
      · subst hb; rw [upd_same] at e; cases e; exact eh
      · rw [upd_ne hb] at e; exact h.same _ _ e
    · unfold sdel at e
      by_cases ha : a = p
      · rw [if_pos ha] at e; cases e
      · rw [if_neg ha] at e
        obtain ⟨b1, ho', e1, r1⟩ := h.obj a mo e
        exact ⟨by rw [upd_ne ha]; exact b1, ho', e1, r1.mono s1⟩
    · unfold sdel; split
      · rfl
      · exact z
  | _ => exact rh.elim
theorem SRp.list {K : PySem.W.Frag} {B H : Hp} {m : Store} {p : Addr} {ds : List D} (h : SRp K B H m) (hp : m p = some (.lst ds)) : ∃ vs, H p = some (.lst vs) ∧ DpAll K B vs ds := by
  obtain ⟨nb, ho, eh, rh⟩ := h.obj _ _ hp
  cases ho with
  | lst vs => exact ⟨vs, eh, rh⟩
  | _ => exact rh.elim
theorem SRp.ins {K : PySem.W.Frag} {B H : Hp} {m : Store} {p C : Addr} {fs : List (Str × D)} (h : SRp K B H m) (hp : m p = some (.ins C fs)) : ∃ dx gs, H p = some (.ins C dx gs) ∧ FRel K B gs fs := by
  obtain ⟨nb, ho, eh, rh⟩ := h.obj _ _ hp
  cases ho with
  | ins C' dx gs => obtain ⟨e, r⟩ := rh; subst e; exact ⟨dx, gs, eh, r⟩
  | _ => exact rh.elim
theorem SRp.dct {K : PySem.W.Frag} {B H : Hp} {m : Store} {p : Addr} {kvs : List (DKey × D)} (h : SRp K B H m) (hp : m p = some (.dct kvs)) : ∃ gs, H p = some (.dK gs) ∧ KRel K B gs kvs := by
  obtain ⟨nb, ho, eh, rh⟩ := h.obj _ _ hp
  cases ho with
  | dK gs => exact ⟨gs, eh, rh⟩
  | _ => exact rh.elim

def Thn (K : PySem.W.Frag) (B H : Hp) (m : Store) (R : KD) (Q : VK) : Prop := ∀ B' d m' v H', Same B B' → SRp K B' H' m' → Frm B H m B' H' m' → Dp K B' v d → R d m' → Q v H'
def ThX (K : PySem.W.Frag) (B H : Hp) (m : Store) (x : XD) (Q : Addr → Hp → Prop) : Prop := ∀ B' C m' H', Same B B' → SRp K B' H' m' → Frm B H m B' H' m' → x C m' → Q C H'
def up (K : PySem.W.Frag) (W : WX) (f : WE) : TE := fun σ H Q => ∃ B r m R x, ERp K B σ r ∧ SRp K B H m ∧ f r m R x ∧ Thn K B H m R Q ∧ ThX K B H m x fun C H' => W (.ref C) none σ H'
def upT (K : PySem.W.Frag) (W : WX) (f : WT) : TT := fun σ H Q => ∃ B r m R x, ERp K B σ r ∧ SRp K B H m ∧ f r m R x ∧ (∀ B' b m' H', Same B B' → SRp K B' H' m' → Frm B H m B' H' m' → R b m' → Q b H') ∧ ThX K B H m x fun C H' => W (.ref C) none σ H'
def upA (K : PySem.W.Frag) (W : WX) (f : WA) : TA := fun σ H Q => ∃ B r m R x, ERp K B σ r ∧ SRp K B H m ∧ f r m R x ∧ (∀ B' ds m' vs H', Same B B' → SRp K B' H' m' → Frm B H m B' H' m' → DpAll K B' vs ds → R ds m' → Q vs H') ∧ ThX K B H m x fun C H' => W (.ref C) none σ H'
structure ThS (K : PySem.W.Frag) (W : WX) (B H : Hp) (m : Store) (k : SK) (E : Ends) : Prop where
  nx : ∀ B' σ' r' m' H', Same B B' → SRp K B' H' m' → Frm B H m B' H' m' → ERp K B' σ' r' → k.nx r' m' → E.nx σ' H'
  rt : Thn K B H m k.rt E.rt
  ex : ∀ B' σ' r' C m' H', Same B B' → SRp K B' H' m' → Frm B H m B' H' m' → ERp K B' σ' r' → k.ex C m' → W (.ref C) none σ' H'
  bk : ∀ B' σ' r' m' H', Same B B' → SRp K B' H' m' → Frm B H m B' H' m' → ERp K B' σ' r' → k.bk r' m' → E.bk σ' H'
  ct : ∀ B' σ' r' m' H', Same B B' → SRp K B' H' m' → Frm B H m B' H' m' → ERp K B' σ' r' → k.ct r' m' → E.ct σ' H'
def upS (K : PySem.W.Frag) (W : WX) (f : WS) : TS := fun E σ H => ∃ B r m k, ERp K B σ r ∧ SRp K B H m ∧ f r m k ∧ ThS K W B H m k E

theorem PE.imp {X : Cx} {e : Expr} {t t' : TE} (h : PE X e t) (i : ∀ σ H Q, t' σ H Q → t σ H Q) : PE X e t' := ⟨fun pins s σ H Q I q => h.run pins s σ H Q I (i σ H Q q)⟩
theorem PT.imp {X : Cx} {e : Expr} {t t' : TT} (h : PT X e t) (i : ∀ σ H Q, t' σ H Q → t σ H Q) : PT X e t' := ⟨fun pins s σ H Q I q => h.run pins s σ H Q I (i σ H Q q)⟩
theorem PA.imp {X : Cx} {e : List Expr} {t t' : TA} (h : PA X e t) (i : ∀ σ H Q, t' σ H Q → t σ H Q) : PA X e t' := ⟨fun pos pins s σ H Q I q => h.run pos pins s σ H Q I (i σ H Q q)⟩
theorem PS.imp {X : Cx} {e : Stmt} {t t' : TS} (h : PS X e t) (i : ∀ E σ H, t' E σ H → t E σ H) : PS X e t' := ⟨fun pins s σ H E I q => h.run pins s σ H E I (i E σ H q)⟩
theorem PSs.imp {X : Cx} {e : List Stmt} {t t' : TS} (h : PSs X e t) (i : ∀ E σ H, t' E σ H → t E σ H) : PSs X e t' := ⟨fun pins s σ H E I q => h.run pins s σ H E I (i E σ H q)⟩

section
variable {K : PySem.W.Frag} {B B1 H H1 : Hp} {m m1 : Store}
theorem Thn.step {R : KD} {Q : VK} (h : Thn K B H m R Q) (e : Same B B1) (f : Frm B H m B1 H1 m1) : Thn K B1 H1 m1 R Q := fun B' d m' v H' a b c p q => h B' d m' v H' (e.trans a) b (f.trans c) p q
theorem ThX.step {x : XD} {Q : Addr → Hp → Prop} (h : ThX K B H m x Q) (e : Same B B1) (f : Frm B H m B1 H1 m1) : ThX K B1 H1 m1 x Q := fun B' C m' H' a b c q => h B' C m' H' (e.trans a) b (f.trans c) q
theorem ThS.step {W : WX} {k : SK} {E : Ends} (h : ThS K W B H m k E) (e : Same B B1) (f : Frm B H m B1 H1 m1) : ThS K W B1 H1 m1 k E :=
  ⟨fun B' σ' r' m' H' a b c => h.nx B' σ' r' m' H' (e.trans a) b (f.trans c), h.rt.step e f, fun B' σ' r' C m' H' a b c => h.ex B' σ' r' C m' H' (e.trans a) b (f.trans c), fun B' σ' r' m' H' a b c => h.bk B' σ' r' m' H' (e.trans a) b (f.trans c), fun B' σ' r' m' H' a b c => h.ct B' σ' r' m' H' (e.trans a) b (f.trans c)⟩
theorem ThS.x {W : WX} {k : SK} {E : Ends} {σ : L2.St} {r : Env} (h : ThS K W B H m k E) (er : ERp K B σ r) : ThX K B H m k.ex fun C H' => W (.ref C) none σ H' := fun B' C m' H' a b c q => h.ex B' σ r C m' H' a b c (er.mono a) q
end

def Eff (K : PySem.W.Frag) (B : Hp) (r : Hp → VK → Prop) (w : Store → KD → Prop) : Prop := ∀ H m R Q, SRp K B H m → w m R → Thn K B H m R Q → r H Q
theorem eff_ret {K : PySem.W.Frag} {B H : Hp} {m : Store} {R : KD} {Q : VK} {v : V} {d : D} (S : SRp K B H m) (h : Thn K B H m R Q) (p : Dp K B v d) (q : R d m) : Q v H := h B d m v H (Same.refl B) S Frm.refl p q
theorem eff_tup {K : PySem.W.Frag} {B H : Hp} {m : Store} {R : KD} {Q : VK} {vs : List V} {ds : List D} (S : SRp K B H m) (h : Thn K B H m R Q) (p : DpAll K B vs ds) (q : R (.tup ds) m) : ∀ a, H a = none → Q (.ref a) (upd H a (.tup vs)) := fun a n => by
  obtain ⟨s1, S1, f1⟩ := S.frz (ho := .tup vs) n
  exact h _ _ _ _ _ s1 S1 f1 (.tup (.inl (.inl upd_same)) (p.mono s1)) q
theorem eff_lst {K : PySem.W.Frag} {B H : Hp} {m : Store} {R : KD} {Q : VK} {vs : List V} {ds : List D} (S : SRp K B H m) (h : Thn K B H m R Q) (p : DpAll K B vs ds) (q : ∀ a, m a = none → R (.ref a) (sup m a (.lst ds))) : ∀ a, H a = none → Q (.ref a) (upd H a (.lst vs)) := fun a n => by
  obtain ⟨nm, S1, f1⟩ := S.new (ho := .lst vs) (mo := .lst ds) n p
  exact h _ _ _ _ _ (Same.refl B) S1 f1 (.ref a) (q a nm)
theorem eff_lstV {K : PySem.W.Frag} {B H : Hp} {m : Store} {R : KD} {Q : VK} {vs : List V} {ds : List D} (S : SRp K B H m) (h : Thn K B H m R Q) (p : DpAll K B vs ds) (q : R (.lst ds) m) : ∀ a, H a = none → Q (.ref a) (upd H a (.lst vs)) := fun a n => by
  obtain ⟨s1, S1, f1⟩ := S.frz (ho := .lst vs) n
  exact h _ _ _ _ _ s1 S1 f1 (.lst upd_same (p.mono s1)) q
theorem eff_nw {K : PySem.W.Frag} {B H : Hp} {m : Store} {R : KD} {Q : VK} {vs : List V} {ds : List D} : ∀ {b : Bool}, SRp K B H m → Thn K B H m R Q → DpAll K B vs ds → wNw b ds m R → ∀ a, H a = none → Q (.ref a) (upd H a (.lst vs))
  | true, S, h, p, q => eff_lst S h p q
  | false, S, h, p, q => eff_lstV S h p q
def OpD (X : Cx) (f : Value → Value → Sem Value) (w : W2) : Prop := ∃ r : R2, OpR X f r ∧ ∀ B u v d e, Dp X.K B u d → Dp X.K B v e → Eff X.K B (fun H Q => r u v H Q) (w d e)
def UnD (X : Cx) (f : Value → Sem Value) (w : W1) : Prop := ∃ r, UnR X f r ∧ ∀ B u d, Dp X.K B u d → Eff X.K B (fun H Q => r u H Q) (w d)
def CallD (X : Cx) (f : Value) (w : WL) : Prop := ∃ r, CallR X f r ∧ ∀ B us ds, DpAll X.K B us ds → Eff X.K B (fun H Q => r us H Q) (w ds)
def IxD (X : Cx) (w : W2) : Prop := ∃ r : R2, IxR X r ∧ ∀ B u v d e, Dp X.K B u d → Dp X.K B v e → Eff X.K B (fun H Q => r u v H Q) (w d e)
theorem OpD.or {X : Cx} {f : Value → Value → Sem Value} {w w' : W2} (h : OpD X f w) (h' : OpD X f w') : OpD X f (fun d e m R => w d e m R ∨ w' d e m R) := by
  obtain ⟨r, h1, h2⟩ := h
  obtain ⟨r', h1', h2'⟩ := h'
  refine ⟨_, h1.or h1', fun B u v d e p q H m R Q S hw t => ?_⟩
  rcases hw with z | z
  · exact .inl (h2 B u v d e p q H m R Q S z t)
  · exact .inr (h2' B u v d e p q H m R Q S z t)
end DL
end
section
set_option maxHeartbeats 0
namespace DL
open PySem PySem.Spec PyProof.Rows L2
section
variable {X : Cx} {W : WX} {a b c : Expr} {fa fb fc : WE} {pos : Pos}
theorem get_some {r : Env} {i : Nat} {d : D} (h : get r i = some d) : r[i]? = some (some d) := by
  rw [get_eq] at h
  cases q : r[i]? with
  | none => rw [q] at h; cases h
  | some o => rw [q] at h; cases o with
    | none => cases h
    | some e => cases h; rfl
theorem pd_var (i : Nat) {x : Str} (h : PE X (.Name x pos) (tVar i)) : PE X (.Name x pos) (up X.K W (wVar i)) := PE.imp h fun σ H Q ⟨B, r, m, R, x, er, S, h, t, _⟩ => by
  obtain ⟨d, e, q⟩ := ok_iff.mp h
  obtain ⟨v, e1, p⟩ := er.2 i d (get_some e)
  exact ⟨v, e1, eff_ret S t p q⟩
theorem pd_c {e : Expr} {v : V} {d : D} (h : PE X e (tC v)) (p : ∀ B, Dp X.K B v d) : PE X e (up X.K W (wC d)) := PE.imp h fun σ H Q ⟨B, r, m, R, x, er, S, h, t, _⟩ => eff_ret S t (p B) h
theorem pd_int {i j pos} : PE X (.Constant (.int i) j pos) (up X.K W (wC (.int i))) := pd_c pe_int fun _ => .int i
theorem pd_bl {i j pos} : PE X (.Constant (.bool i) j pos) (up X.K W (wC (.bl i))) := pd_c pe_bl fun _ => .bl i
theorem pd_non {j pos} : PE X (.Constant .none j pos) (up X.K W (wC .non)) := pd_c pe_non fun _ => .non
theorem pd_str {i j pos} : PE X (.Constant (.str i) j pos) (up X.K W (wC (.str i))) := pd_c pe_str fun _ => .str i
theorem two_up {σ : L2.St} {H : Hp} {Q : VK} {w : W2} {r : R2} (hw : ∀ B u v d e, Dp X.K B u d → Dp X.K B v e → Eff X.K B (fun H Q => r u v H Q) (w d e)) (h : up X.K W (wOp w fa fb) σ H Q) : tOp r (up X.K W fa) (up X.K W fb) σ H Q := by
  obtain ⟨B, ρ, m, R, x, er, S, h, t, tx⟩ := h
  refine ⟨B, ρ, m, _, x, er, S, h, fun B1 d m1 u H1 s1 S1 f1 p1 q1 => ?_, tx⟩
  refine ⟨B1, ρ, m1, _, x, er.mono s1, S1, q1, fun B2 e m2 v H2 s2 S2 f2 p2 q2 => ?_, tx.step s1 f1⟩
  exact hw B2 u v d e (p1.mono s2) p2 H2 m2 R Q S2 q2 (t.step (s1.trans s2) (f1.trans f2))
theorem pd_op {op : Operator} {w : W2} (ho : OpD X (binaryOp op) w) (ha : PE X a (up X.K W fa)) (hb : PE X b (up X.K W fb)) : PE X (.BinOp a op b pos) (up X.K W (wOp w fa fb)) := by
  obtain ⟨r, h1, h2⟩ := ho
  exact PE.imp (pe_op h1 ha hb) fun σ H Q h => two_up h2 h
theorem pd_cmp {op : CmpOp} {w : W2} (ho : OpD X (compareOp op) w) (ha : PE X a (up X.K W fa)) (hb : PE X b (up X.K W fb)) (hm : behindInMarks op b = false) : PE X (.Compare a [op] [b] pos) (up X.K W (wOp w fa fb)) := by
  obtain ⟨r, h1, h2⟩ := ho
  exact PE.imp (pe_cmpR h1 ha hb hm) fun σ H Q h => two_up h2 h
theorem test_up {σ : L2.St} {H : Hp} {Q : Bool → Hp → Prop} (h : upT X.K W (wTest fa) σ H Q) : tTest (up X.K W fa) σ H Q := by
  obtain ⟨B, ρ, m, R, x, er, S, h, t, tx⟩ := h
  refine ⟨B, ρ, m, _, x, er, S, h, fun B1 d m1 u H1 s1 S1 f1 p1 q1 => ?_, tx⟩
  cases p1 with
  | bl k => exact ⟨k, rfl, t B1 k m1 H1 s1 S1 f1 q1⟩
  | _ => exact q1.elim
theorem up_mono {f g : WE} (i : ∀ r m R x, g r m R x → f r m R x) {σ : L2.St} {H : Hp} {Q : VK} (h : up X.K W g σ H Q) : up X.K W f σ H Q := by
  obtain ⟨B, ρ, m, R, x, er, S, h, t, tx⟩ := h
  exact ⟨B, ρ, m, R, x, er, S, i _ _ _ _ h, t, tx⟩
theorem ptd_cmp {op : CmpOp} {w : W2} (ho : OpD X (compareOp op) w) (ha : PE X a (up X.K W fa)) (hb : PE X b (up X.K W fb)) (hm : behindInMarks op b = false) : PT X (.Compare a [op] [b] pos) (upT X.K W (wTest (wOp w fa fb))) := by
  obtain ⟨r, h1, h2⟩ := ho
  refine PT.imp (pt_cmpR h1 ha hb hm) fun σ H Q h => ?_
  have q := test_up h
  exact two_up (Q := fun x H' => ∃ k, x = .bl k ∧ Q k H') h2 q
theorem ptd_val (ha : PE X a (up X.K W fa)) (he : ∀ whole, isTrue a X.env whole = (do let v ← whole; standAt a.pos; holding [v] (truthy v)) := by intro _; rfl) : PT X a (upT X.K W (wTest fa)) := PT.imp (pt_val ha he) fun σ H Q h => test_up h
variable {ta tb : WT} {rest : List Expr}
theorem ptd_not (ha : PT X a (upT X.K W ta)) : PT X (.UnaryOp .Not a pos) (upT X.K W (wNot ta)) := PT.imp (pt_not ha) fun σ H Q h => by
  obtain ⟨B, ρ, m, R, x, er, S, h, t, tx⟩ := h
  exact ⟨B, ρ, m, _, x, er, S, h, fun B1 k m1 H1 s1 S1 f1 q1 => t B1 _ m1 H1 s1 S1 f1 q1, tx⟩
theorem pwd_and1 (ha : PT X a (upT X.K W ta)) : PW X (.BoolOp .And [a] pos) (upT X.K W ta) := pw_and1 ha
theorem pwd_or1 (ha : PT X a (upT X.K W ta)) : PW X (.BoolOp .Or [a] pos) (upT X.K W ta) := pw_or1 ha
theorem pwd_and (ha : PT X a (upT X.K W ta)) (hb : PW X (.BoolOp .And (b :: rest) pos) (upT X.K W tb)) : PW X (.BoolOp .And (a :: b :: rest) pos) (upT X.K W (wAnd ta tb)) := ⟨fun wh pins s σ H Q I h => (pw_and ha hb).run wh pins s σ H Q I (by
  obtain ⟨B, ρ, m, R, x, er, S, h, t, tx⟩ := h
  refine ⟨B, ρ, m, _, x, er, S, h, fun B1 k m1 H1 s1 S1 f1 q1 => ?_, tx⟩
  cases k with
  | true => rw [if_pos rfl] at q1 ⊢; exact ⟨B1, ρ, m1, R, x, er.mono s1, S1, q1, fun B2 k m2 H2 s2 S2 f2 q2 => t B2 k m2 H2 (s1.trans s2) S2 (f1.trans f2) q2, tx.step s1 f1⟩
  | false => rw [if_neg Bool.false_ne_true] at q1 ⊢; exact t B1 false m1 H1 s1 S1 f1 q1)⟩
theorem pwd_or (ha : PT X a (upT X.K W ta)) (hb : PW X (.BoolOp .Or (b :: rest) pos) (upT X.K W tb)) : PW X (.BoolOp .Or (a :: b :: rest) pos) (upT X.K W (wOr ta tb)) := ⟨fun wh pins s σ H Q I h => (pw_or ha hb).run wh pins s σ H Q I (by
  obtain ⟨B, ρ, m, R, x, er, S, h, t, tx⟩ := h
  refine ⟨B, ρ, m, _, x, er, S, h, fun B1 k m1 H1 s1 S1 f1 q1 => ?_, tx⟩
  cases k with
  | false => rw [if_neg Bool.false_ne_true] at q1 ⊢; exact ⟨B1, ρ, m1, R, x, er.mono s1, S1, q1, fun B2 k m2 H2 s2 S2 f2 q2 => t B2 k m2 H2 (s1.trans s2) S2 (f1.trans f2) q2, tx.step s1 f1⟩
  | true => rw [if_pos rfl] at q1 ⊢; exact t B1 true m1 H1 s1 S1 f1 q1)⟩
def wNotV (a : WE) : WE := fun r m R x => a r m (fun u m1 => match u with | .bl k => R (.bl (!k)) m1 | _ => False) x
def wAndV (a b : WE) : WE := fun r m R x => a r m (fun u m1 => match u with | .bl true => b r m1 R x | .bl false => R (.bl false) m1 | _ => False) x
def wOrV (a b : WE) : WE := fun r m R x => a r m (fun u m1 => match u with | .bl true => R (.bl true) m1 | .bl false => b r m1 R x | _ => False) x
theorem pd_not (ha : PE X a (up X.K W fa)) : PE X (.UnaryOp .Not a pos) (up X.K W (wNotV fa)) := PE.imp (pe_not ha) fun σ H Q h => by
  obtain ⟨B, ρ, m, R, x, er, S, h, t, tx⟩ := h
  refine ⟨B, ρ, m, _, x, er, S, h, fun B1 d m1 u H1 s1 S1 f1 p1 q1 => ?_, tx⟩
  cases p1 with
  | bl k => exact ⟨k, rfl, t B1 _ m1 _ H1 s1 S1 f1 (.bl _) q1⟩
  | _ => exact q1.elim
theorem pd_one {op} (ha : PE X a (up X.K W fa)) : PE X (.BoolOp op [a] pos) (up X.K W fa) := pe_one ha
theorem pd_and (ha : PE X a (up X.K W fa)) (hb : PE X (.BoolOp .And (b :: rest) pos) (up X.K W fb)) : PE X (.BoolOp .And (a :: b :: rest) pos) (up X.K W (wAndV fa fb)) := PE.imp (pe_and ha hb) fun σ H Q h => by
  obtain ⟨B, ρ, m, R, x, er, S, h, t, tx⟩ := h
  refine ⟨B, ρ, m, _, x, er, S, h, fun B1 d m1 u H1 s1 S1 f1 p1 q1 => ?_, tx⟩
  cases p1 with
  | bl k =>
    refine ⟨k, rfl, ?_⟩
    cases k with
    | true => rw [if_pos rfl]; exact ⟨B1, ρ, m1, R, x, er.mono s1, S1, q1, t.step s1 f1, tx.step s1 f1⟩
    | false => rw [if_neg Bool.false_ne_true]; exact t B1 _ m1 _ H1 s1 S1 f1 (.bl _) q1
  | _ => exact q1.elim
theorem pd_or (ha : PE X a (up X.K W fa)) (hb : PE X (.BoolOp .Or (b :: rest) pos) (up X.K W fb)) : PE X (.BoolOp .Or (a :: b :: rest) pos) (up X.K W (wOrV fa fb)) := PE.imp (pe_or ha hb) fun σ H Q h => by
  obtain ⟨B, ρ, m, R, x, er, S, h, t, tx⟩ := h
  refine ⟨B, ρ, m, _, x, er, S, h, fun B1 d m1 u H1 s1 S1 f1 p1 q1 => ?_, tx⟩
  cases p1 with
  | bl k =>
    refine ⟨k, rfl, ?_⟩
    cases k with
    | false => rw [if_neg Bool.false_ne_true]; exact ⟨B1, ρ, m1, R, x, er.mono s1, S1, q1, t.step s1 f1, tx.step s1 f1⟩
    | true => rw [if_pos rfl]; exact t B1 _ m1 _ H1 s1 S1 f1 (.bl _) q1
  | _ => exact q1.elim
theorem pd_if (hc : PT X c (upT X.K W ta)) (ha : PE X a (up X.K W fa)) (hb : PE X b (up X.K W fb)) : PE X (.IfExp c a b pos) (up X.K W (wIf ta fa fb)) := PE.imp (pe_ifExp hc ha hb) fun σ H Q h => by
  obtain ⟨B, ρ, m, R, x, er, S, h, t, tx⟩ := h
  refine ⟨B, ρ, m, _, x, er, S, h, fun B1 k m1 H1 s1 S1 f1 q1 => ?_, tx⟩
  cases k with
  | true => rw [if_pos rfl] at q1 ⊢; exact ⟨B1, ρ, m1, R, x, er.mono s1, S1, q1, t.step s1 f1, tx.step s1 f1⟩
  | false => rw [if_neg Bool.false_ne_true] at q1 ⊢; exact ⟨B1, ρ, m1, R, x, er.mono s1, S1, q1, t.step s1 f1, tx.step s1 f1⟩
theorem chain_up {σ : L2.St} {H : Hp} {Q : VK} {w w' : W2} {r r' : R2} (h2 : ∀ B u v d e, Dp X.K B u d → Dp X.K B v e → Eff X.K B (fun H Q => r u v H Q) (w d e)) (h2' : ∀ B u v d e, Dp X.K B u d → Dp X.K B v e → Eff X.K B (fun H Q => r' u v H Q) (w' d e))
    (h : up X.K W (wChain w w' fa fb fc) σ H Q) : tChain r r' (up X.K W fa) (up X.K W fb) (up X.K W fc) σ H Q := by
  obtain ⟨B, ρ, m, R, x, er, S, h, t, tx⟩ := h
  refine ⟨B, ρ, m, _, x, er, S, h, fun B1 d m1 u H1 s1 S1 f1 p1 q1 => ?_, tx⟩
  refine ⟨B1, ρ, m1, _, x, er.mono s1, S1, q1, fun B2 e m2 v H2 s2 S2 f2 p2 q2 => ?_, tx.step s1 f1⟩
  refine h2 B2 u v d e (p1.mono s2) p2 H2 m2 _ _ S2 q2 fun B3 z m3 zv H3 s3 S3 f3 p3 q3 => ?_
  cases p3 with
  | bl k =>
    refine ⟨k, rfl, ?_⟩
    cases k with
    | true =>
      rw [if_pos rfl]
      refine ⟨B3, ρ, m3, _, x, er.mono ((s1.trans s2).trans s3), S3, q3, fun B4 y m4 yv H4 s4 S4 f4 p4 q4 => ?_, tx.step ((s1.trans s2).trans s3) ((f1.trans f2).trans f3)⟩
      exact h2' B4 v yv e y (p2.mono (s3.trans s4)) p4 H4 m4 R Q S4 q4 (t.step (((s1.trans s2).trans s3).trans s4) (((f1.trans f2).trans f3).trans f4))
    | false =>
      rw [if_neg Bool.false_ne_true]
      exact t B3 _ m3 _ H3 ((s1.trans s2).trans s3) S3 ((f1.trans f2).trans f3) (.bl _) q3
  | _ => exact q3.elim
theorem pd_chain {op op' : CmpOp} {w w' : W2} (ho : OpD X (compareOp op) w) (ho' : OpD X (compareOp op') w') (ha : PE X a (up X.K W fa)) (hb : PE X b (up X.K W fb)) (hc : PE X c (up X.K W fc))
    (hm : lastMarks [op, op'] [b, c] = false := by with_unfolding_all rfl) : PE X (.Compare a [op, op'] [b, c] pos) (up X.K W (wChain w w' fa fb fc)) := by
  obtain ⟨r, h1, h2⟩ := ho
  obtain ⟨r', h1', h2'⟩ := ho'
  exact PE.imp (pe_chain h1 h1' ha hb hc hm) fun σ H Q h => chain_up h2 h2' h
theorem ptd_chain {op op' : CmpOp} {w w' : W2} (ho : OpD X (compareOp op) w) (ho' : OpD X (compareOp op') w') (ha : PE X a (up X.K W fa)) (hb : PE X b (up X.K W fb)) (hc : PE X c (up X.K W fc))
    (hm : lastMarks [op, op'] [b, c] = false := by with_unfolding_all rfl) : PT X (.Compare a [op, op'] [b, c] pos) (upT X.K W (wTest (wChain w w' fa fb fc))) := by
  obtain ⟨r, h1, h2⟩ := ho
  obtain ⟨r', h1', h2'⟩ := ho'
  exact PT.imp (pt_chain h1 h1' ha hb hc hm) fun σ H Q h => chain_up (Q := fun x H' => ∃ k, x = .bl k ∧ Q k H') h2 h2' (test_up h)
variable {es : List Expr} {ga : WA}
theorem pad_nil : PA X [] (upA X.K W wNil) := PA.imp pa_nil fun σ H Q ⟨B, r, m, R, x, er, S, h, t, _⟩ => t B [] m [] H (Same.refl B) S Frm.refl .nil h
theorem pad_cons (ha : PE X a (up X.K W fa)) (hr : PA X es (upA X.K W ga)) (hs : starEach (a :: es) X.env = (false, eval a X.env) :: starEach es X.env := by rfl) : PA X (a :: es) (upA X.K W (wCons fa ga)) := PA.imp (pa_cons ha hr hs) fun σ H Q h => by
  obtain ⟨B, ρ, m, R, x, er, S, h, t, tx⟩ := h
  refine ⟨B, ρ, m, _, x, er, S, h, fun B1 d m1 u H1 s1 S1 f1 p1 q1 => ?_, tx⟩
  refine ⟨B1, ρ, m1, _, x, er.mono s1, S1, q1, fun B2 ds m2 vs H2 s2 S2 f2 p2 q2 => ?_, tx.step s1 f1⟩
  exact t B2 _ m2 _ H2 (s1.trans s2) S2 (f1.trans f2) (.cons (p1.mono s2) p2) q2
theorem pd_tup {x1} (h : PA X es (upA X.K W ga)) : PE X (.Tuple es x1 pos) (up X.K W (wTup ga)) := PE.imp (pe_tup h) fun σ H Q h => by
  obtain ⟨B, ρ, m, R, x, er, S, h, t, tx⟩ := h
  refine ⟨B, ρ, m, _, x, er, S, h, fun B1 ds m1 vs H1 s1 S1 f1 p1 q1 => ?_, tx⟩
  exact ⟨by rw [← LIM_eq, p1.length]; exact q1.1, eff_tup S1 (t.step s1 f1) p1 q1.2⟩
theorem pd_lst {b : Bool} (h : PA X es (upA X.K W ga)) : PE X (.List es pos) (up X.K W (wLst b ga)) := PE.imp (pe_lst h) fun σ H Q h => by
  obtain ⟨B, ρ, m, R, x, er, S, h, t, tx⟩ := h
  refine ⟨B, ρ, m, _, x, er, S, h, fun B1 ds m1 vs H1 s1 S1 f1 p1 q1 => ?_, tx⟩
  exact ⟨by rw [← LIM_eq, p1.length]; exact q1.1, eff_nw S1 (t.step s1 f1) p1 q1.2⟩
theorem pd_frz (h : PE X a (up X.K W fa)) : PE X a (up X.K W (wFrz fa)) := PE.imp h fun σ H Q h => by
  obtain ⟨B, ρ, m, R, x, er, S, h, t, tx⟩ := h
  refine ⟨B, ρ, m, _, x, er, S, h, fun B1 d m1 u H1 s1 S1 f1 p1 q1 => ?_, tx⟩
  obtain ⟨b, ds, rfl, hb, q⟩ := q1
  obtain ⟨vs, s2, S2, f2, p2⟩ := S1.freeze hb
  have eu : u = .ref b := by cases p1; rfl
  subst eu
  exact t _ _ _ _ _ (s1.trans s2) S2 (f1.trans f2) p2 q
theorem call_up {σ : L2.St} {H : Hp} {Q : VK} {w : WL} {r : List V → Hp → VK → Prop} (hw : ∀ B us ds, DpAll X.K B us ds → Eff X.K B (fun H Q => r us H Q) (w ds)) (h : up X.K W (wCallB w ga) σ H Q) : tCB r (upA X.K W ga) σ H Q := by
  obtain ⟨B, ρ, m, R, x, er, S, h, t, tx⟩ := h
  refine ⟨B, ρ, m, _, x, er, S, h, fun B1 ds m1 vs H1 s1 S1 f1 p1 q1 => ?_, tx⟩
  exact hw B1 vs ds p1 H1 m1 R Q S1 q1 (t.step s1 f1)
theorem pd_callB {id : String} {x : Str} {w : WL} {p : Pos} (hc : CallD X (.builtin id) w) (hg : Gl X x) (hm : X.mg x = none) (hv : bootBuiltins x = some (.builtin id)) (ha : PA X (a :: es) (upA X.K W ga)) (hn : x ≠ "__name__" := by decide) (hdb : (x == ("__debug__" : Str)) = false := by decide)
    (he : starEach (a :: es) X.env = (false, eval a X.env) :: starEach es X.env := by rfl) (hpl : (backTo pos (starEach es X.env)).any (·.1) = false := by rfl) : PE X (.Call (.Name x p) (a :: es) [] pos) (up X.K W (wCallB w ga)) := by
  obtain ⟨r, h1, h2⟩ := hc
  exact PE.imp (pe_callB h1 hg hm hv ha hn hdb he hpl) fun σ H Q h => call_up h2 h
theorem pd_callTy {T : String} {x : Str} {w : WL} {p : Pos} (hc : CallD X (.type T) w) (hg : Gl X x) (hm : X.mg x = none) (hv : bootBuiltins x = some (.type T)) (ha : PA X (a :: es) (upA X.K W ga)) (hn : x ≠ "__name__" := by decide) (hdb : (x == ("__debug__" : Str)) = false := by decide)
    (he : starEach (a :: es) X.env = (false, eval a X.env) :: starEach es X.env := by rfl) (hpl : (backTo pos (starEach es X.env)).any (·.1) = false := by rfl) : PE X (.Call (.Name x p) (a :: es) [] pos) (up X.K W (wCallB w ga)) := by
  obtain ⟨r, h1, h2⟩ := hc
  exact PE.imp (pe_callTy h1 hg hm hv ha hn hdb he hpl) fun σ H Q h => call_up h2 h
theorem pd_ix {w : W2} (hr : IxD X w) (ha : PE X a (up X.K W fa)) (hb : PE X b (up X.K W fb)) (hs : PlainIx b) : PE X (.Subscript a b pos) (up X.K W (wOp w fa fb)) := by
  obtain ⟨r, h1, h2⟩ := hr
  exact PE.imp (pe_ix h1 ha hb hs) fun σ H Q h => two_up h2 h
theorem pd_un {op : UnaryOp} {w : W1} (ho : UnD X (unaryOp op) w) (ha : PE X a (up X.K W fa)) : PE X (.UnaryOp op a pos) (up X.K W (wUn w fa)) := by
  obtain ⟨r, h1, h2⟩ := ho
  refine PE.imp (pe_un h1 ha) fun σ H Q h => ?_
  obtain ⟨B, ρ, m, R, x, er, S, h, t, tx⟩ := h
  refine ⟨B, ρ, m, _, x, er, S, h, fun B1 d m1 u H1 s1 S1 f1 p1 q1 => ?_, tx⟩
  exact h2 B1 u d p1 H1 m1 R Q S1 q1 (t.step s1 f1)
abbrev WSl := D → Option Int → Option Int → Store → KD → Prop
abbrev WO := Env → Store → (Option Int → Store → Prop) → XD → Prop
def upO (K : PySem.W.Frag) (W : WX) (f : WO) : TO := fun σ H Q => ∃ B r m R x, ERp K B σ r ∧ SRp K B H m ∧ f r m R x ∧ (∀ B' b m' H', Same B B' → SRp K B' H' m' → Frm B H m B' H' m' → R b m' → Q b H') ∧ ThX K B H m x fun C H' => W (.ref C) none σ H'
def oNone : WO := fun _ m R _ => R none m
def oSome (a : WE) : WO := fun r m R x => a r m (fun u m1 => match u with | .int i => R (some i) m1 | _ => False) x
theorem PO.imp {e : Option Expr} {t t' : TO} (h : PO X e t) (i : ∀ σ H Q, t' σ H Q → t σ H Q) : PO X e t' := ⟨fun pins s σ H Q I q => h.run pins s σ H Q I (i σ H Q q)⟩
theorem pod_none : PO X none (upO X.K W oNone) := PO.imp po_none fun σ H Q ⟨B, r, m, R, x, er, S, h, t, _⟩ => t B _ m H (Same.refl B) S Frm.refl h
theorem pod_some (ha : PE X a (up X.K W fa)) : PO X (some a) (upO X.K W (oSome fa)) := PO.imp (po_some ha) fun σ H Q h => by
  obtain ⟨B, ρ, m, R, x, er, S, h, t, tx⟩ := h
  refine ⟨B, ρ, m, _, x, er, S, h, fun B1 d m1 u H1 s1 S1 f1 p1 q1 => ?_, tx⟩
  cases p1 with
  | int k => exact ⟨k, rfl, t B1 _ m1 H1 s1 S1 f1 q1⟩
  | _ => exact q1.elim
def SlD (X : Cx) (w : WSl) : Prop := ∃ r, SlR X r ∧ ∀ B u d lo hi, Dp X.K B u d → Eff X.K B (fun H Q => r u lo hi H Q) (w d lo hi)
def wSl (w : WSl) (a : WE) (l h : WO) : WE := fun r m R x => a r m (fun u m1 => l r m1 (fun lo m2 => h r m2 (fun hi m3 => w u lo hi m3 R) x) x) x
theorem pd_sl {w : WSl} {lo hi : Option Expr} {fl fh : WO} {p2 : Pos} (hw : SlD X w) (ha : PE X a (up X.K W fa)) (hl : PO X lo (upO X.K W fl)) (hh : PO X hi (upO X.K W fh)) : PE X (.Subscript a (.Slice lo hi none p2) pos) (up X.K W (wSl w fa fl fh)) := by
  obtain ⟨r, h1, h2⟩ := hw
  refine PE.imp (pe_slice h1 ha hl hh) fun σ H Q h => ?_
  obtain ⟨B, ρ, m, R, x, er, S, h, t, tx⟩ := h
  refine ⟨B, ρ, m, _, x, er, S, h, fun B1 d m1 u H1 s1 S1 f1 p1 q1 => ?_, tx⟩
  refine ⟨B1, ρ, m1, _, x, er.mono s1, S1, q1, fun B2 lo m2 H2 s2 S2 f2 q2 => ?_, tx.step s1 f1⟩
  refine ⟨B2, ρ, m2, _, x, er.mono (s1.trans s2), S2, q2, fun B3 hi m3 H3 s3 S3 f3 q3 => ?_, tx.step (s1.trans s2) (f1.trans f2)⟩
  exact h2 B3 u d lo hi (p1.mono (s2.trans s3)) H3 m3 R Q S3 q3 (t.step ((s1.trans s2).trans s3) ((f1.trans f2).trans f3))
end
end DL
end
section
set_option maxHeartbeats 0
namespace DL
open PySem PySem.Spec PyProof.Rows L2
section
variable {X : Cx} {W : WX} {a b c : Expr} {fa fb fc : WE} {pos : Pos} {st : Stmt} {rest : List Stmt} {s1 s2 : WS} {ta : WT}
theorem psd_nil : PSs X [] (upS X.K W wNext) := PSs.imp pss_nil fun E σ H ⟨B, r, m, k, er, S, h, t⟩ => t.nx B σ r m H (Same.refl B) S Frm.refl er h
theorem psd_cons (h1 : PS X st (upS X.K W s1)) (h2 : PSs X rest (upS X.K W s2)) : PSs X (st :: rest) (upS X.K W (wSeq s1 s2)) := PSs.imp (pss_cons h1 h2) fun E σ H ⟨B, r, m, k, er, S, h, t⟩ =>
  ⟨B, r, m, _, er, S, h, ⟨fun B' σ' r' m' H' a b c d q => ⟨B', r', m', k, d, b, q, t.step a c⟩, t.rt, t.ex, t.bk, t.ct⟩⟩
theorem psd_one (h1 : PS X st (upS X.K W s1)) : PSs X [st] (upS X.K W s1) := pss_one h1
theorem psd_pass : PS X (.Pass pos) (upS X.K W wNext) := PS.imp ps_pass fun E σ H ⟨B, r, m, k, er, S, h, t⟩ => t.nx B σ r m H (Same.refl B) S Frm.refl er h
def wBreak : WS := fun r m k => k.bk r m
def wCont : WS := fun r m k => k.ct r m
theorem psd_break : PS X (.Break pos) (upS X.K W wBreak) := PS.imp ps_break fun E σ H ⟨B, r, m, k, er, S, h, t⟩ => t.bk B σ r m H (Same.refl B) S Frm.refl er h
theorem psd_expr (ha : PE X a (up X.K W fa)) (hs : swapsWith a none pos.line X.env = pure false := by rfl) : PS X (.Expr a pos) (upS X.K W (wExp fa)) := PS.imp (ps_expr ha hs) fun E σ H ⟨B, r, m, k, er, S, h, t⟩ =>
  ⟨B, r, m, _, _, er, S, h, fun B' d m' v H' s1 S1 f1 p q => t.nx B' σ r m' H' s1 S1 f1 (er.mono s1) q, t.x er⟩
theorem psd_ret (ha : PE X a (up X.K W fa)) : PS X (.Return (some a) pos) (upS X.K W (wRet fa)) := PS.imp (ps_ret ha) fun E σ H ⟨B, r, m, k, er, S, h, t⟩ => ⟨B, r, m, _, _, er, S, h, t.rt, t.x er⟩
theorem psd_retN : PS X (.Return none pos) (upS X.K W wRetN) := PS.imp ps_retN fun E σ H ⟨B, r, m, k, er, S, h, t⟩ => t.rt B _ m _ H (Same.refl B) S Frm.refl .non h
theorem psd_if {u v : List Stmt} (hc : PT X c (upT X.K W ta)) (ha : PSs X u (upS X.K W s1)) (hb : PSs X v (upS X.K W s2)) : PS X (.If c u v pos) (upS X.K W (wIfS ta s1 s2)) := PS.imp (ps_if hc ha hb) fun E σ H ⟨B, r, m, k, er, S, h, t⟩ => by
  refine ⟨B, r, m, _, _, er, S, h, fun B1 q m1 H1 e1 S1 f1 q1 => ?_, t.x er⟩
  cases q with
  | true => rw [if_pos rfl] at q1 ⊢; exact ⟨B1, r, m1, k, er.mono e1, S1, q1, t.step e1 f1⟩
  | false => rw [if_neg Bool.false_ne_true] at q1 ⊢; exact ⟨B1, r, m1, k, er.mono e1, S1, q1, t.step e1 f1⟩
theorem psd_set {i : Nat} {x : Str} {pos' : Pos} (hN : X.N.Nodup) (hi : X.N[i]? = some x) (hx : Loc X.env.scope x) (ha : PE X a (up X.K W fa)) (hs : swapsWith a (some (.Name x pos')) pos.line X.env = pure false := by rfl) (hf : X.fn x = true ∨ X.env.scope.names.lookup x = some .local := by first | exact .inl rfl | exact .inr rfl | assumption) :
    PS X (.Assign [.Name x pos'] a pos) (upS X.K W (wSet i fa)) := PS.imp (ps_set hN hi hx ha hs hf) fun E σ H ⟨B, r, m, k, er, S, h, t⟩ =>
  ⟨B, r, m, _, _, er, S, h, fun B' d m' v H' s1 S1 f1 p q => t.nx B' _ _ m' H' s1 S1 f1 ((er.mono s1).set i p) q, t.x er⟩
def upG (K : PySem.W.Frag) (g : WG) (t : TG) : Prop := ∀ B v d σ r H m Kd (Q : L2.St → Hp → Prop), ERp K B σ r → SRp K B H m → Dp K B v d → g d r m Kd → (∀ B' σ' r' m' H', Same B B' → SRp K B' H' m' → Frm B H m B' H' m' → ERp K B' σ' r' → Kd r' m' → Q σ' H') → t v σ H Q
theorem g_name {K : PySem.W.Frag} (i : Nat) : upG K (gNm i) (gName i) := fun B v d σ r H m Kd Q er S p h q => q B _ _ m H (Same.refl B) S Frm.refl (er.set i p) h
def gNames : List Nat → TGs
  | [] => gNil
  | i :: is => gCons (gName i) (gNames is)
theorem gNames_ok {K : PySem.W.Frag} {B : Hp} {Q : L2.St → Hp → Prop} {H : Hp} : ∀ (is : List Nat) (vs : List V) (ds : List D) (σ : L2.St) (r : Env), ERp K B σ r → DpAll K B vs ds → ds.length = is.length → (∀ σ', ERp K B σ' (putAll r is ds) → Q σ' H) → gNames is vs σ H Q
  | [], _, _, σ, r, er, p, hl, q => by
    cases p with
    | nil => exact ⟨rfl, q σ er⟩
    | cons _ _ => simp at hl
  | i :: is, _, _, σ, r, er, p, hl, q => by
    cases p with
    | nil => simp at hl
    | cons h t => exact ⟨_, _, rfl, gNames_ok is _ _ _ _ (er.set i h) t (by simpa using hl) q⟩
theorem g_tup {K : PySem.W.Frag} (is : List Nat) : upG K (gTp is) (gTup K is.length (gNames is)) := fun B v d σ r H m Kd Q er S p h q => by
  cases p with
  | tup hs hp =>
    exact ⟨_, _, rfl, sqT_mono S.same hs, hp.length.trans h.1, gNames_ok is _ _ σ r er hp h.1 fun σ' er' => q B σ' _ m H (Same.refl B) S Frm.refl er' h.2⟩
  | _ => exact h.elim
theorem g_lst {K : PySem.W.Frag} (is : List Nat) : upG K (gLs is) (gLst K is.length (gNames is)) := fun B v d σ r H m Kd Q er S p h q => by
  cases p with
  | lst hs hp =>
    exact ⟨_, _, rfl, .inl (.inl (S.same _ _ hs)), hp.length.trans h.1, gNames_ok is _ _ σ r er hp h.1 fun σ' er' => q B σ' _ m H (Same.refl B) S Frm.refl er' h.2⟩
  | _ => exact h.elim
theorem psd_asg {tg : Expr} {g : WG} {t : TG} (ha : PE X a (up X.K W fa)) (hg : PG X tg t) (ug : upG X.K g t) (hs : swapsWithSole [tg] a pos.line X.env = pure false := by rfl) (hw : swappedStores [tg] a X.env = pure none := by rfl)
    (h1 : (assignEach [tg] X.env).map (·.2) = [assign tg X.env] := by rfl) : PS X (.Assign [tg] a pos) (upS X.K W (wAsg fa g)) := PS.imp (ps_asg ha hg hs hw h1) fun E σ H ⟨B, r, m, k, er, S, h, t⟩ =>
  ⟨B, r, m, _, _, er, S, h, fun B' d m' v H' s1 S1 f1 p q => ug B' v d σ r H' m' _ _ (er.mono s1) S1 p q fun B2 σ2 r2 m2 H2 s2 S2 f2 e2 q2 => t.nx B2 σ2 r2 m2 H2 (s1.trans s2) S2 (f1.trans f2) e2 q2, t.x er⟩
def wPar (i j : Nat) (a : WA) : WS := fun r m k => a r m (fun us m1 => match us with | [u, v] => k.nx (put (put r i (some u)) j (some v)) m1 | _ => False) k.ex
theorem psd_par {ga : WA} {i j : Nat} {x y : Str} {px py pt : Pos} {kt k2 pt2} (hc : X.calm = true) (hN : X.N.Nodup) (hi : X.N[i]? = some x) (hj : X.N[j]? = some y) (hij : i ≠ j)
    (hx : X.env.scope.names.lookup x = some .local) (hy : X.env.scope.names.lookup y = some .local) (ha : PA X [a, b] (upA X.K W ga))
    (hw : swappedStores [.Tuple [.Name x px, .Name y py] kt pt] (.Tuple [a, b] k2 pt2) X.env = pure (some [x, y]))
    (hs : swapsWithSole [.Tuple [.Name x px, .Name y py] kt pt] (.Tuple [a, b] k2 pt2) pos.line X.env = pure false := by rfl) :
    PS X (.Assign [.Tuple [.Name x px, .Name y py] kt pt] (.Tuple [a, b] k2 pt2) pos) (upS X.K W (wPar i j ga)) := PS.imp (ps_par hc hN hi hj hij hx hy ha hw hs) fun E σ H ⟨B, r, m, k, er, S, h, t⟩ => by
  refine ⟨B, r, m, _, _, er, S, h, fun B1 ds m1 vs H1 e1 S1 f1 p1 q1 => ?_, t.x er⟩
  cases p1 with
  | nil => exact q1.elim
  | cons h1 t1 => cases t1 with
    | nil => exact q1.elim
    | cons h2 t2 => cases t2 with
      | cons _ _ => exact q1.elim
      | nil => exact ⟨_, _, rfl, t.nx B1 _ _ m1 H1 e1 S1 f1 (((er.mono e1).set i h1).set j h2) q1⟩
structure IRp (K : PySem.W.Frag) (B : Hp) (J : It) (ds : List D) (G : Store → Prop) : Prop where
  goes : ∀ i B' H m, i < ds.length → Same B B' → SRp K B' H m → G m → J.go i H
  stops : ∀ B' H m, Same B B' → SRp K B' H m → G m → J.stop ds.length H
  yields : ∀ i B' H m x H', i < ds.length → Same B B' → SRp K B' H m → G m → J.yld i H x H' → ∃ B2 d, ds[i]? = some d ∧ Same B' B2 ∧ SRp K B2 H' m ∧ Frm B' H m B2 H' m ∧ Dp K B2 x d
def upI (K : PySem.W.Frag) (W : WX) (f : WI) : TI := fun σ H R => ∃ B r m R' x, ERp K B σ r ∧ SRp K B H m ∧ f r m R' x ∧ (∀ B' ds G m' H' J, Same B B' → SRp K B' H' m' → Frm B H m B' H' m' → IRp K B' J ds G → R' ds G m' → R J H') ∧ ThX K B H m x fun C H' => W (.ref C) none σ H'
theorem PI.imp {tg it : Expr} {t t' : TI} (h : PI X tg it t) (i : ∀ σ H R, t' σ H R → t σ H R) : PI X tg it t' := ⟨fun pins s σ H R I q => h.run pins s σ H R I (i σ H R q)⟩
theorem drop_cons {ds : List D} {i : Nat} {d : D} (h : ds[i]? = some d) : ds.drop i = d :: ds.drop (i + 1) := by
  obtain ⟨hi, e⟩ := List.getElem?_eq_some_iff.mp h
  rw [List.drop_eq_getElem_cons hi, e]
theorem psd_for {tg iter : Expr} {body : List Stmt} {fi : WI} {g : WG} {t : TG} (hp : PassesOwn (model X.prog X.w) X.A X.env X.xe) (hc : X.calm = true) (hi : PI X tg iter (upI X.K W fi)) (hg : PG X tg t) (ug : upG X.K g t) (hb : PSs X body (upS X.K W s1))
    (hs : ∀ x, foldedSetIterable iter X.env x = pure x := by intro _; rfl) : PS X (.For tg iter body [] pos) (upS X.K W (wFor fi g s1)) := PS.imp (ps_for hp hc hi hg hb hs) fun E σ H ⟨B, r, m, k, er, S, h, t⟩ => by
  refine ⟨B, r, m, _, _, er, S, h, fun B1 ds G m1 H1 J e1 S1 f1 ir q1 => ?_, t.x er⟩
  have Wk : Walk J ds.length (fun H => ∃ B' m, Same B1 B' ∧ SRp X.K B' H m ∧ G m) (fun i H x H' => J.yld i H x H') :=
    ⟨fun i H hi ⟨B', m, a, b, c⟩ => ir.goes i B' H m hi a b c, fun H ⟨B', m, a, b, c⟩ => ir.stops B' H m a b c, fun i H x H' _ _ y => y⟩
  have T1 := t.step e1 f1
  refine for_it Wk (fun i σ' H' => ∃ B' r' m', Same B1 B' ∧ SRp X.K B' H' m' ∧ Frm B1 H1 m1 B' H' m' ∧ ERp X.K B' σ' r' ∧ wForL G g s1 (ds.drop i) r' m' k) ⟨B1, r, m1, Same.refl _, S1, Frm.refl, er.mono e1, q1⟩ ?_ ?_ ?_
  · rintro i σ' H' hi ⟨B', r', m', a, b, c, d, q⟩
    refine ⟨B', m', a, b, ?_⟩
    cases e : ds.drop i with
    | nil => rw [e] at q; exact q.1
    | cons => rw [e] at q; exact q.1
  · rintro i x σ' H' H2 hi ⟨B', r', m', a, b, c, d, q⟩ y
    have hG : G m' := by
      cases e : ds.drop i with
      | nil => rw [e] at q; exact q.1
      | cons => rw [e] at q; exact q.1
    obtain ⟨B2, dd, ed, s2, S2, f2, p2⟩ := ir.yields i B' H' m' x H2 hi a b hG y
    rw [drop_cons ed] at q
    refine ug B2 x dd σ' r' H2 m' _ _ (d.mono s2) S2 p2 q.2 fun B3 σ3 r3 m3 H3 s3 S3 f3 e3 q3 => ?_
    have F3 : Frm B1 H1 m1 B3 H3 m3 := (c.trans f2).trans f3
    have A3 : Same B1 B3 := (a.trans s2).trans s3
    refine ⟨B3, r3, m3, _, e3, S3, q3, ⟨fun B4 σ4 r4 m4 H4 s4 S4 f4 e4 q4 => ⟨B4, r4, m4, A3.trans s4, S4, F3.trans f4, e4, q4⟩, T1.rt.step A3 F3, fun B4 σ4 r4 C m4 H4 s4 S4 f4 e4 q4 => T1.ex B4 σ4 r4 C m4 H4 (A3.trans s4) S4 (F3.trans f4) e4 q4,
      fun B4 σ4 r4 m4 H4 s4 S4 f4 e4 q4 => T1.nx B4 σ4 r4 m4 H4 (A3.trans s4) S4 (F3.trans f4) e4 q4, fun B4 σ4 r4 m4 H4 s4 S4 f4 e4 q4 => ⟨B4, r4, m4, A3.trans s4, S4, F3.trans f4, e4, q4⟩⟩⟩
  · rintro σ' H' ⟨B', r', m', a, b, c, d, q⟩
    rw [List.drop_length] at q
    exact T1.nx B' σ' r' m' H' a b c d q.2
theorem psd_while {body : List Stmt} (hp : PassesOwn (model X.prog X.w) X.A X.env X.xe) (hc : PT X c (upT X.K W ta)) (hb : PSs X body (upS X.K W s1)) : PS X (.While c body [] pos) (upS X.K W (wWhile ta s1)) := PS.imp (ps_while hp hc hb) fun E σ H ⟨B, r, m, k, er, S, h, t⟩ => by
  obtain ⟨n, h⟩ := h
  refine ⟨fun n σ' H' => ∃ B' r' m', Same B B' ∧ SRp X.K B' H' m' ∧ Frm B H m B' H' m' ∧ ERp X.K B' σ' r' ∧ wWhN ta s1 n r' m' k, ⟨n, B, r, m, Same.refl _, S, Frm.refl, er, h⟩, ?_⟩
  rintro n σ' H' ⟨B', r', m', a, b, c, d, q⟩
  cases n with
  | zero => exact q.elim
  | succ n =>
    refine ⟨B', r', m', _, _, d, b, q, fun B1 v m1 H1 e1 S1 f1 q1 => ?_, fun B1 C m1 H1 e1 S1 f1 q1 => t.ex B1 σ' r' C m1 H1 (a.trans e1) S1 (c.trans f1) (d.mono e1) q1⟩
    have T1 := t.step (a.trans e1) (c.trans f1)
    cases v with
    | false => exact iteF (t.nx B1 σ' r' m1 H1 (a.trans e1) S1 (c.trans f1) (d.mono e1) q1)
    | true =>
      refine iteT ⟨fun σ' H' => ∃ B' r' m', Same B B' ∧ SRp X.K B' H' m' ∧ Frm B H m B' H' m' ∧ ERp X.K B' σ' r' ∧ wWhN ta s1 n r' m' k, fun σ2 H2 hn => ⟨n, Nat.lt_succ_self n, hn⟩, ?_⟩
      exact ⟨B1, r', m1, _, d.mono e1, S1, q1, ⟨fun B4 σ4 r4 m4 H4 s4 S4 f4 e4 q4 => ⟨B4, r4, m4, (a.trans e1).trans s4, S4, (c.trans f1).trans f4, e4, q4⟩, T1.rt, T1.ex, T1.nx, fun B4 σ4 r4 m4 H4 s4 S4 f4 e4 q4 => ⟨B4, r4, m4, (a.trans e1).trans s4, S4, (c.trans f1).trans f4, e4, q4⟩⟩⟩
def W0 : WX := fun _ _ _ _ => False
theorem lc_up {bb : Bool} {fi : WI} {g : WG} {tg : TG} {t : WT} {e : WE} {vs : List Nat} {σ : L2.St} {H : Hp} {Q : VK} (ug : upG X.K g tg) (hw : ∀ x σ H Q, tg x (wipe σ vs) H Q → tg x (wipe σ vs) H fun σ2 H2 => wipe σ2 vs = wipe σ vs ∧ Q σ2 H2)
    (h : up X.K W (wLc bb vs fi g t e) σ H Q) : tLc (upI X.K W fi) tg (upT X.K W0 t) (up X.K W0 e) vs σ H Q := by
  obtain ⟨B, r, m, R, x, er, S, h, th, tx⟩ := h
  refine ⟨B, r, m, _, x, er, S, h, fun B1 ds G m1 H1 J e1 S1 f1 ir q1 => fun Dl hD => ?_, tx⟩
  have Wk : Walk J ds.length (fun H => ∃ B' m, Same B1 B' ∧ SRp X.K B' H m ∧ G m) (fun i H x H' => J.yld i H x H') :=
    ⟨fun i H hi ⟨B', m, a, b, c⟩ => ir.goes i B' H m hi a b c, fun H ⟨B', m, a, b, c⟩ => ir.stops B' H m a b c, fun i H x H' _ _ y => y⟩
  have hB1 : B1 Dl = none := by
    cases q : B1 Dl with
    | none => rfl
    | some o => rw [S1.same _ _ q] at hD; cases hD
  have hm1 : m1 Dl = none := by
    cases q : m1 Dl with
    | none => rfl
    | some o => obtain ⟨_, ho', z, _⟩ := S1.obj _ _ q; rw [z] at hD; cases hD
  let Kf : List D → Store → Prop := fun us m2 => wNw bb us m2 R
  let Pv : Nat → Hp → Prop := fun i H' => ∃ B' m' acc vacc, Same B1 B' ∧ SRp X.K B' H' m' ∧ Frm B1 H1 m1 B' H' m' ∧ B' Dl = none ∧ m' Dl = none ∧ H' Dl = some (.lst vacc) ∧ DpAll X.K B' vacc acc ∧ wLcL G vs g t e r (ds.drop i) acc m' Kf
  have put : ∀ {B' H' : Hp} {m' : Store} {o : HO}, SRp X.K B' H' m' → B' Dl = none → m' Dl = none → SRp X.K B' (upd H' Dl o) m' := fun {B' H' m' o} S' hB hm => ⟨fun b u z => by rw [upd_ne (ne_of_none z hB)]; exact S'.same _ _ z, fun a mo z => by
    obtain ⟨z1, ho, z2, z3⟩ := S'.obj a mo z
    exact ⟨z1, ho, by rw [upd_ne (fun q => by subst q; rw [hm] at z; cases z)]; exact z2, z3⟩⟩
  have fput : ∀ {B' H' : Hp} {m' : Store} {o : HO}, Frm B1 H1 m1 B' H' m' → Frm B1 H1 m1 B' (upd H' Dl o) m' := fun {B' H' m' o} f => ⟨fun a ho z n => by rw [upd_ne (ne_of_none z hD)]; exact f.keep a ho z n, f.out, f.bout⟩
  refine lc_it Wk Pv ⟨B1, m1, [], [], Same.refl _, put S1 hB1 hm1, fput Frm.refl, hB1, hm1, upd_same, .nil, q1⟩ ?_ ?_ ?_
  · rintro i H' hi ⟨B', m', acc, vacc, a, b, c, d1, d2, d3, d4, q⟩
    refine ⟨B', m', a, b, ?_⟩
    cases z : ds.drop i with
    | nil => rw [z] at q; exact q.1
    | cons => rw [z] at q; exact q.1
  · rintro i xv H' H2 hi ⟨B', m', acc, vacc, a, b, c, d1, d2, d3, d4, q⟩ y
    have hG : G m' := by
      cases z : ds.drop i with
      | nil => rw [z] at q; exact q.1
      | cons => rw [z] at q; exact q.1
    obtain ⟨B2, dd, ed, s2, S2, f2, p2⟩ := ir.yields i B' H' m' xv H2 hi a b hG y
    rw [drop_cons ed] at q
    have h2D : H2 Dl = some (.lst vacc) := f2.keep _ _ d3 d2
    have c2 := c.trans f2
    refine hw _ _ _ _ (ug B2 xv dd _ _ H2 m' _ _ ((er.mono (e1.trans (a.trans s2))).wipe vs) S2 p2 q.2 fun B3 σ3 r3 m3 H3 s3 S3 f3 e3 q3 => ?_)
    refine ⟨B3, r3, m3, _, _, e3, S3, q3, fun B4 v m4 H4 s4 S4 f4 q4 => ?_, fun _ _ _ _ _ _ _ z => z⟩
    have g4 := f3.trans f4
    have n2 : B2 Dl = none := f2.bout _ _ d3 d2 d1
    cases v with
    | false => exact iteF ⟨B4, m4, acc, vacc, ((a.trans s2).trans s3).trans s4, S4, c2.trans g4, g4.bout _ _ h2D d2 n2, g4.out _ _ h2D d2, g4.keep _ _ h2D d2, d4.mono ((s2.trans s3).trans s4), q4⟩
    | true =>
      refine iteT ⟨B4, r3, m4, _, _, e3.mono s4, S4, q4, fun B5 u m5 y5 H5 s5 S5 f5 p5 q5 => ?_, fun _ _ _ _ _ _ _ z => z⟩
      have g5 := g4.trans f5
      refine ⟨vacc, g5.keep _ _ h2D d2, by rw [← LIM_eq, d4.length]; exact q5.1, B5, m5, acc ++ [u], vacc ++ [y5], (((a.trans s2).trans s3).trans s4).trans s5, put S5 (g5.bout _ _ h2D d2 n2) (g5.out _ _ h2D d2), fput (c2.trans g5), g5.bout _ _ h2D d2 n2, g5.out _ _ h2D d2, upd_same, (d4.mono (((s2.trans s3).trans s4).trans s5)).append (.cons p5 .nil), q5.2⟩
  · rintro H' ⟨B', m', acc, vacc, a, b, c, d1, d2, d3, d4, q⟩
    rw [List.drop_length] at q
    obtain ⟨_, q⟩ := q
    have fk : ∀ z ho, H z = some ho → m z = none → H' z = some ho := fun z ho ez nz => c.keep z ho (f1.keep z ho ez nz) (f1.out z ho ez nz)
    have fo : ∀ z ho, H z = some ho → m z = none → m' z = none := fun z ho ez nz => c.out z ho (f1.keep z ho ez nz) (f1.out z ho ez nz)
    have fb : ∀ z ho, H z = some ho → m z = none → B z = none → B' z = none := fun z ho ez nz bz => c.bout z ho (f1.keep z ho ez nz) (f1.out z ho ez nz) (f1.bout z ho ez nz bz)
    have nD : ∀ z ho, H z = some ho → m z = none → z ≠ Dl := fun z ho ez nz => ne_of_none (f1.keep z ho ez nz) hD
    cases bb with
    | true =>
      refine th B' (.ref Dl) (sup m' Dl (.lst acc)) (.ref Dl) H' (e1.trans a) ⟨b.same, fun z mo ez => ?_⟩ ⟨fk, fun z ho ez nz => ?_, fb⟩ (.ref Dl) (q Dl d2)
      · by_cases hz : z = Dl
        · subst hz; rw [sup_same] at ez; cases ez; exact ⟨d1, _, d3, d4⟩
        · rw [sup_ne hz] at ez; exact b.obj z mo ez
      · rw [sup_ne (nD z ho ez nz)]; exact fo z ho ez nz
    | false =>
      have s9 : Same B' (upd B' Dl (.lst vacc)) := fun b o e => by rw [upd_ne (ne_of_none e d1)]; exact e
      refine th (upd B' Dl (.lst vacc)) (.lst acc) m' (.ref Dl) H' ((e1.trans a).trans s9) ⟨fun z o ez => ?_, fun z mo ez => ?_⟩ ⟨fk, fo, fun z ho ez nz bz => ?_⟩ (.lst upd_same (d4.mono s9)) q
      · by_cases hz : z = Dl
        · subst hz; rw [upd_same] at ez; cases ez; exact d3
        · rw [upd_ne hz] at ez; exact b.same _ _ ez
      · obtain ⟨z1, ho, z2, z3⟩ := b.obj z mo ez
        exact ⟨by rw [upd_ne (fun y => by subst y; rw [d2] at ez; cases ez)]; exact z1, ho, z2, z3.mono s9⟩
      · rw [upd_ne (nD z ho ez nz)]; exact fb z ho ez nz bz
end
end DL
end
section
set_option maxHeartbeats 0
namespace DL
open PySem PySem.Spec PyProof.Rows L2
def spD (K : PySem.W.Frag) (n : Nat) (f : FW) : Sp := fun vs H Q E => ∃ B ds m R x, vs.length = n ∧ DpAll K B vs ds ∧ SRp K B H m ∧ f ds m R x ∧ Thn K B H m R Q ∧ ThX K B H m x fun C H' => E (.ref C) none H'
def startD (n : Nat) (ds : List D) : Env := ds.map some ++ List.replicate (n - ds.length) none
def endD (R : KD) (x : XD) : SK := ⟨fun _ m => R .non m, R, x, fun _ _ => False, fun _ _ => False⟩
theorem start_erp {K : PySem.W.Frag} {B : Hp} {N : List Str} {vs : List V} {ds : List D} (h : DpAll K B vs ds) (hl : vs.length ≤ N.length) : ERp K B (L2.start N vs) (startD N.length ds) := by
  have e := h.length
  refine ⟨by simp [L2.start, startD, e], fun i d q => ?_⟩
  unfold startD at q
  unfold L2.start
  by_cases hi : i < ds.length
  · rw [List.getElem?_append_left (by simpa using hi), List.getElem?_map] at q
    rw [List.getElem?_append_left (by simpa [e] using hi), List.getElem?_map]
    cases z : ds[i]? with
    | none => rw [z] at q; cases q
    | some d' =>
      rw [z] at q
      simp at q
      subst q
      obtain ⟨v, h1, h2⟩ := h.get z
      exact ⟨v, by rw [h1]; rfl, h2⟩
  · rw [List.getElem?_append_right (by simpa using hi), List.getElem?_replicate] at q
    split at q <;> simp at q
section
variable {P : Program} {w : World} {K : PySem.W.Frag} {mg : Str → Option Value} {base : Heap}
abbrev cxD (P : Program) (w : World) (K : PySem.W.Frag) (mg : Str → Option Value) (base : Heap) (N : List Str) (qual : Str) (st : Stmt) (f : Addr) (cdv : Value) (A : Around) (outer : List PySem.Env) (s : Shared) (H : Hp) (E : XK) : Cx := cxOf (L2N.CX P w) P w K mg base N qual (defScope st) f cdv A outer s H E
end
end DL
namespace DL
open PySem PySem.Spec PyProof.Rows L2
section
variable {P : Program} {w : World} {K : PySem.W.Frag} {mg : Str → Option Value} {base : Heap}
abbrev WD (E : XK) : WX := fun cls d _ H => E cls d H
theorem fnD {x qual : Str} {st : Stmt} {f : Addr} {fd : FuncData} {N ps : List Str} {k : Nat} {g : FW} {b : WS} (F : Fun K x qual st f fd) (S : FnScope N ps (defScope st))
    (hd : ∀ (cdv : Value) (A : Around) (outer : List PySem.Env) (s : Shared) (H : Hp) (E : XK), Room k (A.deeper (envOfC qual (defScope st) s.heap.objs.size f cdv)) → PSs (cxD P w K mg base N qual st f cdv A outer s H E) (defBody st) (upS K (WD E) b))
    (hg : ∀ ds m R x, g ds m R x → ds.length = ps.length → b (startD N.length ds) m (endD R x)) (hN : ps.length ≤ N.length := by decide) : FnOk P w K mg base (L2N.CX P w) (k + 1) f fd ps (spD K ps.length g) := by
  obtain ⟨oc, od, kV, doc, pm, an, cdv, ct, osl, rfl, lk, hcd⟩ := F.ex
  refine fn_of lk hcd S (fun vs H Q E ⟨_, _, _, _, _, h, _⟩ => h) fun A outer s H vs Q E hr h => ?_
  obtain ⟨B, ds, m, R, x, hl, hp, hs, hf, ht, hx⟩ := h
  refine ⟨_, hd cdv A outer s H E hr, B, _, m, endD R x, start_erp hp (by rw [hl]; exact hN), hs, hg ds m R x hf (by rw [← hp.length]; exact hl), ?_⟩
  exact ⟨fun B' σ' r' m' H' a b c d q => ht B' .non m' .non H' a b c .non q, ht, fun B' σ' r' C m' H' a b c d q => hx B' C m' H' a b c q, fun _ _ _ _ _ _ _ _ _ z => z.elim, fun _ _ _ _ _ _ _ _ _ z => z.elim⟩
end
section
variable {X : Cx} {W : WX} {a b c o : Expr} {fa fb fc : WE} {pos p apos : Pos} {es : List Expr} {ga : WA} {k n : Nat} {f C : Addr} {fd : FuncData} {ps : List Str} {g : FW} {x nm : Str}
theorem sp_up {σ : L2.St} {H : Hp} {Q : VK} {B : Hp} {m : Store} {R : KD} {x : XD} {vs : List V} {ds : List D} (hl : vs.length = n) (hp : DpAll X.K B vs ds) (S : SRp X.K B H m) (h : g ds m R x) (t : Thn X.K B H m R Q) (tx : ThX X.K B H m x fun C H' => W (.ref C) none σ H') : spD X.K n g vs H Q (L2.WE W σ) := ⟨B, ds, m, R, x, hl, hp, S, h, t, tx⟩
theorem pd_call (F : FnOk X.prog X.w X.K X.mg X.base (L2N.CX X.prog X.w) k f fd ps (spD X.K n g)) (hr : Room k X.A) (tk : L2N.Takes X W) (hg : Gl X x) (hm : X.mg x = some (.ref f)) (hk : PySem.W.keepIn X.K (.ref f) = true) (hb : Binds X.K fd ps [])
    (ha : PA X (a :: es) (upA X.K W ga)) (hdb : (x == ("__debug__" : Str)) = false := by decide) (he : starEach (a :: es) X.env = (false, eval a X.env) :: starEach es X.env := by rfl) (hpl : (backTo pos (starEach es X.env)).any (·.1) = false := by rfl) :
    PE X (.Call (.Name x p) (a :: es) [] pos) (up X.K W (wCall n g ga)) := PE.imp (pe_callS F hr hg hm hk hb (fun σ => L2N.passAt tk σ) ha hdb he hpl) fun σ H Q h => by
  obtain ⟨B, ρ, m, R, x, er, S, h, t, tx⟩ := h
  refine ⟨B, ρ, m, _, x, er, S, h, fun B1 ds m1 vs H1 s1 S1 f1 p1 q1 => ?_, tx⟩
  exact sp_up (by rw [p1.length]; exact q1.1) p1 S1 q1.2 (t.step s1 f1) (tx.step s1 f1)
theorem pe_methX {C : Addr} {m : Str} {CX : CXT} {sp : Sp} {E : L2.St → XK} {ta : TE} {t : TA} {e : Expr} {pl : Sem Bool} (he : PE X o ta) (c : Cls X.K C) (hm : Meth X.K C m f) (F : FnOk X.prog X.w X.K X.mg X.base CX k f fd ps sp) (hr : Room k X.A) (hb : Binds X.K fd ps []) (hx : ∀ σ, PassesAt CX X σ (E σ)) (ha : PA X (e :: es) t)
    (hst : starEach (e :: es) X.env = (false, eval e X.env) :: starEach es X.env := by rfl) (hpl : (backTo pos (starEach es X.env)).any (·.1) = false := by rfl)
    (ht : eval (.Call (.Attribute o m apos) (e :: es) [] pos) X.env = (do
      let ov ← eval o X.env
      standAt apos.atName
      let (f, first) ← holding [ov] (getMethod ov m pl)
      callWith pos f first (backTo pos (starEach (e :: es) X.env)) (backToKw pos (keywordEach [] X.env))) := by rfl) :
    PE X (.Call (.Attribute o m apos) (e :: es) [] pos) (fun σ H Q => ta σ H fun x H1 => ∃ a dx fs, x = .ref a ∧ H1 a = some (.ins C dx fs) ∧ fs.lookup m = none ∧ t σ H1 fun vs H2 => sp (x :: vs) H2 Q (E σ)) := by
  refine ⟨fun pins s σ H Q I h => ?_⟩
  refine PySem.W.methodCall_KW (pl := pl) (thn (he.run pins s σ H _ I h) fun u s1 ⟨x, H1, I1, rx, a, dx, fs, ex, ea, l, q⟩ => ?_) ht
  subst ex
  obtain rfl : u = Value.ref a := rx
  refine getmeth_ok I1 ea c hm l ?_
  refine PySem.W.callWith_K (first := [.ref a]) (h₀ := X.base) I.ok.mod.kin hm.kp (thn (ha.run pos pins s1 σ H1 _ I1 q) fun us s2 ⟨vs, H2, I2, r, q2⟩ => ⟨I2.kIn, ?_⟩) hst hpl
  exact run_fnS (us := .ref a :: us) (vs := .ref a :: vs) F hr hb (hx σ) I2 (.cons rfl r) q2
theorem pe_methX0 {C : Addr} {m : Str} {CX : CXT} {sp : Sp} {E : L2.St → XK} {ta : TE} {pl : Sem Bool} (he : PE X o ta) (c : Cls X.K C) (hm : Meth X.K C m f) (F : FnOk X.prog X.w X.K X.mg X.base CX k f fd ps sp) (hr : Room k X.A) (hb : Binds X.K fd ps []) (hx : ∀ σ, PassesAt CX X σ (E σ))
    (ht : eval (.Call (.Attribute o m apos) [] [] pos) X.env = (do
      let ov ← eval o X.env
      standAt apos.atName
      let (f, first) ← holding [ov] (getMethod ov m pl)
      callWith pos f first (backTo pos (starEach [] X.env)) (backToKw pos (keywordEach [] X.env))) := by rfl) :
    PE X (.Call (.Attribute o m apos) [] [] pos) (fun σ H Q => ta σ H fun x H1 => ∃ a dx fs, x = .ref a ∧ H1 a = some (.ins C dx fs) ∧ fs.lookup m = none ∧ sp [x] H1 Q (E σ)) := by
  refine ⟨fun pins s σ H Q I h => ?_⟩
  refine PySem.W.methodCall_KW (pl := pl) (thn (he.run pins s σ H _ I h) fun u s1 ⟨x, H1, I1, rx, a, dx, fs, ex, ea, l, q⟩ => ?_) ht
  subst ex
  obtain rfl : u = Value.ref a := rx
  refine getmeth_ok I1 ea c hm l ?_
  exact PySem.W.callWith_K0 (first := [.ref a]) I1.kIn hm.kp (run_fnS (us := [.ref a]) (vs := [.ref a]) F hr hb (hx σ) I1 (.cons rfl .nil) q)
def lookD : List (Str × D) → Str → Option D
  | [], _ => none
  | (g, d) :: r, f => if g = f then some d else lookD r f
def putD (f : Str) (d : D) : List (Str × D) → List (Str × D)
  | [] => [(f, d)]
  | (g, x) :: r => if g = f then (g, d) :: r else (g, x) :: putD f d r
theorem FRel.look {K : PySem.W.Frag} {B : Hp} {f : Str} : ∀ {gs : List (Str × V)} {fs : List (Str × D)}, FRel K B gs fs → (lookD fs f = none → gs.lookup f = none) ∧ ∀ d, lookD fs f = some d → ∃ v, gs.lookup f = some v ∧ Dp K B v d
  | _, _, .nil => ⟨fun _ => rfl, fun d h => nomatch h⟩
  | (g, v) :: gs, (g', d) :: fs, .cons h t => by
    obtain ⟨e, p⟩ := h
    have e : g = g' := e
    subst e
    obtain ⟨i1, i2⟩ := FRel.look (f := f) t
    by_cases hf : g = f
    · subst hf
      refine ⟨fun z => ?_, fun d' z => ?_⟩
      · unfold lookD at z; rw [if_pos rfl] at z; cases z
      · unfold lookD at z; rw [if_pos rfl] at z; cases z
        exact ⟨v, by simp [List.lookup], p⟩
    · have hb : (f == g) = false := beq_eq_false_iff_ne.mpr (Ne.symm hf)
      refine ⟨fun z => ?_, fun d' z => ?_⟩
      · unfold lookD at z; rw [if_neg hf] at z; simp only [List.lookup, hb]; exact i1 z
      · unfold lookD at z; rw [if_neg hf] at z; simp only [List.lookup, hb]; exact i2 d' z
theorem FRel.put {K : PySem.W.Frag} {B : Hp} {f : Str} {v : V} {d : D} (p : Dp K B v d) : ∀ {gs : List (Str × V)} {fs : List (Str × D)}, FRel K B gs fs → FRel K B (putF f v gs) (putD f d fs)
  | _, _, .nil => .cons ⟨rfl, p⟩ .nil
  | (g, v0) :: gs, (g', d0) :: fs, .cons h t => by
    obtain ⟨e, p0⟩ := h
    have e : g = g' := e
    subst e
    unfold putF putD
    by_cases hf : g = f
    · rw [if_pos hf, if_pos hf]; exact .cons ⟨rfl, p⟩ t
    · rw [if_neg hf, if_neg hf]; exact .cons ⟨rfl, p0⟩ (FRel.put p t)
theorem FRel.length {K : PySem.W.Frag} {B : Hp} {gs : List (Str × V)} {fs : List (Str × D)} (h : FRel K B gs fs) : gs.length = fs.length := Paired.length h
def wOwn1 (C : Addr) (nm : Str) (n : Nat) (f : FW) (o : WE) (a : WA) : WE := fun r m R x => o r m (fun u m1 => match u with
  | .ref p => ∃ fs, m1 p = some (.ins C fs) ∧ lookD fs nm = none ∧ a r m1 (fun us m2 => us.length + 1 = n ∧ f (.ref p :: us) m2 R x) x
  | _ => False) x
theorem pd_meth {C : Addr} {pl : Sem Bool} {e : Expr} (he : PE X o (up X.K W fa)) (c : Cls X.K C) (hm : Meth X.K C nm f) (F : FnOk X.prog X.w X.K X.mg X.base (L2N.CX X.prog X.w) k f fd ps (spD X.K n g)) (hr : Room k X.A) (tk : L2N.Takes X W) (hb : Binds X.K fd ps []) (ha : PA X (e :: es) (upA X.K W ga))
    (hst : starEach (e :: es) X.env = (false, eval e X.env) :: starEach es X.env := by rfl) (hpl : (backTo pos (starEach es X.env)).any (·.1) = false := by rfl)
    (ht : eval (.Call (.Attribute o nm apos) (e :: es) [] pos) X.env = (do
      let ov ← eval o X.env
      standAt apos.atName
      let (f, first) ← holding [ov] (getMethod ov nm pl)
      callWith pos f first (backTo pos (starEach (e :: es) X.env)) (backToKw pos (keywordEach [] X.env))) := by rfl) :
    PE X (.Call (.Attribute o nm apos) (e :: es) [] pos) (up X.K W (wOwn1 C nm n g fa ga)) := PE.imp (pe_methX he c hm F hr hb (fun σ => L2N.passAt tk σ) ha hst hpl ht) fun σ H Q h => by
  obtain ⟨B, ρ, m, R, x, er, S, h, t, tx⟩ := h
  refine ⟨B, ρ, m, _, x, er, S, h, fun B1 d m1 u H1 s1 S1 f1 p1 q1 => ?_, tx⟩
  cases d with
  | ref q =>
    obtain ⟨fs, hq, hl, q2⟩ := q1
    have eu : u = .ref q := by cases p1; rfl
    subst eu
    obtain ⟨dx, gs, hH, rel⟩ := S1.ins hq
    refine ⟨q, dx, gs, rfl, hH, (rel.look (f := nm)).1 hl, B1, ρ, m1, _, x, er.mono s1, S1, q2, fun B2 ds m2 vs H2 s2 S2 f2 p2 q3 => ?_, tx.step s1 f1⟩
    exact sp_up (by rw [List.length_cons, p2.length]; exact q3.1) (.cons (.ref q) p2) S2 q3.2 (t.step (s1.trans s2) (f1.trans f2)) (tx.step (s1.trans s2) (f1.trans f2))
  | _ => exact q1.elim
theorem pd_meth0 {C : Addr} {pl : Sem Bool} (he : PE X o (up X.K W fa)) (c : Cls X.K C) (hm : Meth X.K C nm f) (F : FnOk X.prog X.w X.K X.mg X.base (L2N.CX X.prog X.w) k f fd ps (spD X.K 1 g)) (hr : Room k X.A) (tk : L2N.Takes X W) (hb : Binds X.K fd ps [])
    (ht : eval (.Call (.Attribute o nm apos) [] [] pos) X.env = (do
      let ov ← eval o X.env
      standAt apos.atName
      let (f, first) ← holding [ov] (getMethod ov nm pl)
      callWith pos f first (backTo pos (starEach [] X.env)) (backToKw pos (keywordEach [] X.env))) := by rfl) :
    PE X (.Call (.Attribute o nm apos) [] [] pos) (up X.K W (wOwn1 C nm 1 g fa wNil)) := PE.imp (pe_methX0 he c hm F hr hb (fun σ => L2N.passAt tk σ) ht) fun σ H Q h => by
  obtain ⟨B, ρ, m, R, x, er, S, h, t, tx⟩ := h
  refine ⟨B, ρ, m, _, x, er, S, h, fun B1 d m1 u H1 s1 S1 f1 p1 q1 => ?_, tx⟩
  cases d with
  | ref q =>
    obtain ⟨fs, hq, hl, q2⟩ := q1
    have eu : u = .ref q := by cases p1; rfl
    subst eu
    obtain ⟨dx, gs, hH, rel⟩ := S1.ins hq
    exact ⟨q, dx, gs, rfl, hH, (rel.look (f := nm)).1 hl, sp_up rfl (.cons (.ref q) .nil) S1 q2.2 (t.step s1 f1) (tx.step s1 f1)⟩
  | _ => exact q1.elim
def wFld (C : Addr) (f : Str) (a : WE) : WE := fun r m R x => a r m (fun u m1 => match u with
  | .ref p => ∃ fs d, m1 p = some (.ins C fs) ∧ lookD fs f = some d ∧ R d m1
  | _ => False) x
theorem pd_fld {C : Addr} {f : Str} (he : PE X a (up X.K W fa)) (c : Cls X.K C) (na : NoAttr X.K C f) (hb : attributeBase a f X.env (eval a X.env) = eval a X.env := by rfl) : PE X (.Attribute a f pos) (up X.K W (wFld C f fa)) := PE.imp (pe_fld he hb) fun σ H Q h => by
  obtain ⟨B, ρ, m, R, x, er, S, h, t, tx⟩ := h
  refine ⟨B, ρ, m, _, x, er, S, h, fun B1 d m1 u H1 s1 S1 f1 p1 q1 => ?_, tx⟩
  cases d with
  | ref q =>
    obtain ⟨fs, d, hq, hl, q2⟩ := q1
    have eu : u = .ref q := by cases p1; rfl
    subst eu
    obtain ⟨dx, gs, hH, rel⟩ := S1.ins hq
    obtain ⟨v, hv, pv⟩ := (rel.look (f := f)).2 d hl
    exact ⟨q, C, dx, gs, v, rfl, hH, c, na, hv, t B1 d m1 v H1 s1 S1 f1 pv q2⟩
  | _ => exact q1.elim
def wFldS (C : Addr) (f : Str) (a v : WE) : WS := fun r m k => v r m (fun y m1 => a r m1 (fun u m2 => match u with
  | .ref p => ∃ fs, m2 p = some (.ins C fs) ∧ fs.length < 1000 ∧ k.nx r (sup m2 p (.ins C (putD f y fs)))
  | _ => False) k.ex) k.ex
theorem psd_fld {C : Addr} {f : Str} {pos' : Pos} (ha : PE X o (up X.K W fa)) (hv : PE X b (up X.K W fb)) (c : Cls X.K C) (na : NoAttr X.K C f) (hs : swapsWith b (some (.Attribute o f pos')) pos.line X.env = pure false := by rfl) : PS X (.Assign [.Attribute o f pos'] b pos) (upS X.K W (wFldS C f fa fb)) := PS.imp (ps_fld ha hv hs) fun E σ H ⟨B, r, m, k, er, S, h, t⟩ => by
  refine ⟨B, r, m, _, _, er, S, h, fun B1 d m1 u H1 s1 S1 f1 p1 q1 => ?_, t.x er⟩
  refine ⟨B1, r, m1, _, _, er.mono s1, S1, q1, fun B2 e m2 v H2 s2 S2 f2 p2 q2 => ?_, (t.x er).step s1 f1⟩
  cases e with
  | ref q =>
    obtain ⟨fs, hq, hl, q3⟩ := q2
    have eu : v = .ref q := by cases p2; rfl
    subst eu
    obtain ⟨dx, gs, hH, rel⟩ := S2.ins hq
    obtain ⟨S3, f3⟩ := S2.put (ho := .ins C dx (putF f u gs)) (mo := .ins C (putD f d fs)) hq ⟨rfl, rel.put (p1.mono s2)⟩
    exact ⟨q, C, dx, gs, rfl, hH, c, na, by rw [rel.length]; exact hl, t.nx B2 σ r _ _ (s1.trans s2) S3 ((f1.trans f2).trans f3) (er.mono (s1.trans s2)) q3⟩
  | _ => exact q2.elim
def wMake (C : Addr) (n : Nat) (f : FW) (a : WA) : WE := fun r m R x => a r m (fun us m1 => us.length + 1 = n ∧ ∀ p, m1 p = none → f (.ref p :: us) (sup m1 p (.ins C [])) (fun d m2 => d = .non ∧ R (.ref p) m2) x) x
theorem SRp.free {K : PySem.W.Frag} {B H : Hp} {m : Store} {p : Addr} {ho : HO} (h : SRp K B H m) (n : H p = none) : SRp K B (upd H p ho) m ∧ Frm B H m B (upd H p ho) m := by
  refine ⟨⟨fun b o e => by rw [upd_ne (ne_of_none (h.same _ _ e) n)]; exact h.same _ _ e, fun a mo e => ?_⟩, fun a o e _ => by rw [upd_ne (ne_of_none e n)]; exact e, fun _ _ _ z => z, fun _ _ _ _ z => z⟩
  obtain ⟨b1, ho', e1, r1⟩ := h.obj a mo e
  exact ⟨b1, ho', by rw [upd_ne (ne_of_none e1 n)]; exact e1, r1⟩
theorem run_makeX {CX : CXT} {sp : Sp} {E : L2.St → XK} {pins : List (Addr × Obj)} {σ : L2.St} {H : Hp} {s : Shared} {Q : VK} {us : List Value} {vs : List V} (M : Mk X.K C f) (F : FnOk X.prog X.w X.K X.mg X.base CX k f fd ps sp) (hr : Room (k + 1) X.A) (hb : Binds X.K fd ps [])
    (hx : PassesAt CX X σ (E σ)) (I : Inv X pins σ H s) (r : Vals vs us)
    (h : ∀ x dx, H x = none → H dx = none → dx ≠ x → sp (.ref x :: vs) (upd (upd H dx (.own x)) x (.ins C dx [])) (fun v H2 => v = .non ∧ Q (.ref x) H2) (E σ)) :
    wpAny (model X.prog X.w) X.A (call (.ref C) us) (EP X pins σ Q) X.xe s := by
  have hq := h (s.heap.objs.size + 1) s.heap.objs.size (I.hok.fresh (Nat.le_succ _)) (I.hok.fresh (Nat.le_refl _)) (Nat.ne_of_lt (Nat.lt_succ_self _))
  have I2 := Inv.made (C := C) I
  have r2 : Vals (V.ref (s.heap.objs.size + 1) :: vs) (Value.ref (s.heap.objs.size + 1) :: us) := .cons rfl r
  have hl : (Value.ref (s.heap.objs.size + 1) :: us).length = ps.length := by
    have e := r2.length
    rw [F.len _ _ _ _ hq] at e
    exact e.symm
  have bb := hb _ (Value.ref (s.heap.objs.size + 1) :: us) I2.kIn (by rw [List.append_nil]; exact hl)
  rw [List.append_nil] at bb
  refine wpAny_call (make_map (f := f) I.kIn M.makes M.init (beq_iff_eq.mp M.fn) (codeAny_mono (F.run _ X.stack _ _ ⟨Value.ref (s.heap.objs.size + 1) :: us, []⟩ (Value.ref (s.heap.objs.size + 1) :: us) _ _ (E σ) (hr.make C us [])
    (I2.env0.make C us []) bb r2 hq) fun r s' hq' => ?_))
  cases r with
  | error e => exact hx pins _ _ e s' I2 hq'
  | ok fl =>
    cases fl with
    | ret u =>
      obtain ⟨v, H', I3, rv, ev, q3⟩ := I2.after hq'
      subst ev
      exact ⟨rv, ⟨V.ref (s.heap.objs.size + 1), H', I3, rfl, q3⟩⟩
    | next => exact False.elim hq'
    | brk => exact False.elim hq'
    | cont => exact False.elim hq'
theorem pd_make {C : Addr} {e : Expr} (M : Mk X.K C f) (F : FnOk X.prog X.w X.K X.mg X.base (L2N.CX X.prog X.w) k f fd ps (spD X.K n g)) (hr : Room (k + 1) X.A) (tk : L2N.Takes X W) (hg : Gl X x) (hm : X.mg x = some (.ref C)) (hb : Binds X.K fd ps [])
    (ha : PA X (e :: es) (upA X.K W ga)) (hdb : (x == ("__debug__" : Str)) = false := by decide) (he : starEach (e :: es) X.env = (false, eval e X.env) :: starEach es X.env := by rfl) (hpl : (backTo pos (starEach es X.env)).any (·.1) = false := by rfl) :
    PE X (.Call (.Name x p) (e :: es) [] pos) (up X.K W (wMake C n g ga)) := by
  refine ⟨fun pins s σ H Q I h => ?_⟩
  obtain ⟨B, ρ, m, R, y, er, S, h, t, tx⟩ := h
  refine wpAny_Call_Name_kw (ld_glob I hg hm ?_ hdb)
  refine PySem.W.callWith_K (h₀ := X.base) I.ok.mod.kin M.kp (thn (ha.run pos pins s σ H (fun vs H1 => ∃ B1 ds m1, Same B B1 ∧ SRp X.K B1 H1 m1 ∧ Frm B H m B1 H1 m1 ∧ DpAll X.K B1 vs ds ∧ ds.length + 1 = n ∧ ∀ p, m1 p = none → g (.ref p :: ds) (sup m1 p (.ins C [])) (fun d m2 => d = .non ∧ R (.ref p) m2) y) I
    ⟨B, ρ, m, _, y, er, S, h, fun B1 ds m1 vs H1 s1 S1 f1 p1 q1 => ⟨B1, ds, m1, s1, S1, f1, p1, q1.1, q1.2⟩, tx⟩) fun us s1 ⟨vs, H1, I1, r, q⟩ => ⟨I1.kIn, ?_⟩) he hpl
  obtain ⟨B1, ds, m1, sm, S1, f1, p1, hl, q⟩ := q
  refine run_makeX (E := L2.WE W) M F hr hb (L2N.passAt tk σ) I1 r fun z dx nz nd ne => ?_
  obtain ⟨S2, f2⟩ := S1.free (ho := .own z) nd
  have nz2 : (upd H1 dx (.own z)) z = none := by rw [upd_ne (Ne.symm ne)]; exact nz
  obtain ⟨mz, S3, f3⟩ := S2.new (ho := .ins C dx []) (mo := .ins C []) nz2 ⟨rfl, .nil⟩
  have f13 := (f1.trans f2).trans f3
  refine sp_up (by rw [List.length_cons, p1.length]; exact hl) (.cons (.ref z) p1) S3 (q z mz) (fun B' d m' v H' a b c p q => ?_) (tx.step sm f13)
  obtain ⟨e1, q⟩ := q
  subst e1
  cases p
  exact ⟨rfl, t B' (.ref z) m' (.ref z) H' (sm.trans a) b (f13.trans c) (.ref z) q⟩
end
end DL
end
section
set_option maxHeartbeats 0
namespace DL
open PySem
def okS (s : Str) : Bool := s.cps.all (· < 0x110000)
mutual
def eqD : D → D → Bool
  | .non, .non => true
  | .bl a, .bl b => decide (a = b)
  | .bl a, .int j => decide ((if a then (1 : Int) else 0) = j)
  | .int i, .bl b => decide (i = (if b then (1 : Int) else 0))
  | .int i, .int j => decide (i = j)
  | .str x, .str y => decide (x = y)
  | .lst xs, .lst ys => eqDs xs ys
  | .tup xs, .tup ys => eqDs xs ys
  | _, _ => false
def eqDs : List D → List D → Bool
  | [], [] => true
  | x :: xs, y :: ys => eqD x y && eqDs xs ys
  | _, _ => false
end
mutual
def dOk : D → Nat → Bool
  | .non, _ => true
  | .bl _, _ => true
  | .int _, _ => true
  | .str s, _ => okS s
  | .tup xs, n + 1 => dOks xs n
  | .lst xs, n + 1 => dOks xs n
  | _, _ => false
def dOks : List D → Nat → Bool
  | [], _ => true
  | x :: xs, n => dOk x n && dOks xs n
end
mutual
theorem eqD_refl : ∀ (d : D) (n : Nat), dOk d n = true → eqD d d = true
  | .non, _, _ => rfl
  | .bl b, _, _ => by simp [eqD]
  | .int i, _, _ => by simp [eqD]
  | .str s, _, _ => by simp [eqD]
  | .tup xs, n + 1, h => by rw [eqD]; exact eqDs_refl xs n (by simpa [dOk] using h)
  | .lst xs, n + 1, h => by rw [eqD]; exact eqDs_refl xs n (by simpa [dOk] using h)
  | .tup xs, 0, h => by simp [dOk] at h
  | .lst xs, 0, h => by simp [dOk] at h
  | .ref a, n, h => by simp [dOk] at h
  | .scr a, n, h => by simp [dOk] at h
  | .ty a, n, h => by simp [dOk] at h
theorem eqDs_refl : ∀ (xs : List D) (n : Nat), dOks xs n = true → eqDs xs xs = true
  | [], _, _ => rfl
  | x :: xs, n, h => by
    have h' : dOk x n = true ∧ dOks xs n = true := by simpa [dOks] using h
    rw [eqDs, eqD_refl x n h'.1, eqDs_refl xs n h'.2]; rfl
end
def rv (m : Store) (d : D) : D := match d with
  | .ref a => match m a with | some (.lst xs) => .lst xs | _ => .ref a
  | d => d
def wEq : W2 := fun d e m R => match d, e with
  | .str s, .str t => R (.bl (decide (s = t))) m
  | .int i, .int j => R (.bl (decide (i = j))) m
  | _, _ => dOk (rv m d) 60 = true ∧ dOk (rv m e) 60 = true ∧ R (.bl (eqD (rv m d) (rv m e))) m
def wNe : W2 := fun d e m R => wEq d e m fun u m' => match u with | .bl b => R (.bl (!b)) m' | _ => False
def wCmpI (p : Int → Int → Bool) : W2 := fun d e m R => match d, e with
  | .int i, .int j => R (.bl (p i j)) m
  | _, _ => False
def wLe : W2 := fun d e m R => match d, e with
  | .int i, .int j => R (.bl (decide (i ≤ j))) m
  | .str s, .str t => R (.bl (!decide (t.cps.toList < s.cps.toList))) m
  | _, _ => False
def wGt : W2 := fun d e m R => match d, e with
  | .int i, .int j => R (.bl (decide (j < i))) m
  | .str s, .str t => R (.bl (decide (t.cps.toList < s.cps.toList))) m
  | _, _ => False
def wGe : W2 := fun d e m R => match d, e with
  | .int i, .int j => R (.bl (decide (j ≤ i))) m
  | .str s, .str t => R (.bl (!decide (s.cps.toList < t.cps.toList))) m
  | _, _ => False
def wEqS : W2 := fun d e m R => match d, e with
  | .scr ns, .lst [] => R (.bl ns.isEmpty) m
  | _, _ => False
def wLt : W2 := fun d e m R => match d, e with
  | .int i, .int j => R (.bl (decide (i < j))) m
  | .str s, .str t => R (.bl (decide (s.cps.toList < t.cps.toList))) m
  | _, _ => False
def flatD : D → Bool
  | .non => true
  | .bl _ => true
  | .int _ => true
  | .str _ => true
  | _ => false
def inD (x : D) (xs : List D) : Bool := xs.any fun y => eqD y x
def wInB (x e : D) (m : Store) (K : Bool → Prop) : Prop := match e with
  | .str t => ∃ c, x = .str ⟨#[c]⟩ ∧ K (decide (c ∈ t.cps.toList))
  | .tup xs => flatD x = true ∧ xs.all flatD = true ∧ K (inD x xs)
  | e => ∃ xs, asL m e = some xs ∧ ((flatD x = true ∧ xs.all flatD = true) ∨ (dOk x 60 = true ∧ dOks xs 59 = true)) ∧ K (inD x xs)
def wIn : W2 := fun x e m R => wInB x e m fun b => R (.bl b) m
def wNotIn : W2 := fun x e m R => wInB x e m fun b => R (.bl (!b)) m
def wIsN : W2 := fun x e m R => e = .non ∧ match x with | .non => R (.bl true) m | .ty _ => False | _ => R (.bl false) m
def wNotN : W2 := fun x e m R => e = .non ∧ match x with | .non => R (.bl false) m | .ty _ => False | _ => R (.bl true) m
def wAdd (b : Bool) : W2 := fun d e m R => match d, e with
  | .int i, .int j => R (.int (i + j)) m
  | .str s, .str t => s.length + t.length ≤ LIM ∧ R (.str (s ++ t)) m
  | .tup xs, .tup ys => xs.length + ys.length ≤ LIM ∧ R (.tup (xs ++ ys)) m
  | _, _ => ∃ xs ys, asL m d = some xs ∧ asL m e = some ys ∧ xs.length + ys.length ≤ LIM ∧ wNw b (xs ++ ys) m R
def wSub : W2 := fun d e m R => match d, e with
  | .int i, .int j => R (.int (i - j)) m
  | _, _ => False
def repD (k : Nat) (xs : List D) : List D := (List.replicate k xs).flatten
def wMul (b : Bool) : W2 := fun d e m R => match d, e with
  | .int i, .int j => ((-(2 ^ 64) < i ∧ i < 2 ^ 64) ∨ (-(2 ^ 64) < j ∧ j < 2 ^ 64)) ∧ R (.int (i * j)) m
  | .str s, .int k => (s.length ≤ 16 ∧ -(2 ^ 63) ≤ k ∧ k ≤ 1048576) ∧ R (.str ⟨(List.replicate k.toNat s.cps.toList).flatten.toArray⟩) m
  | d, .int k => ∃ xs, asL m d = some xs ∧ -(2 ^ 63) ≤ k ∧ k < 2 ^ 63 ∧ xs.length * k.toNat ≤ LIM ∧ wNw b (repD k.toNat xs) m R
  | _, _ => False
def wMulT : W2 := fun d e m R => match d, e with
  | .tup xs, .int k => 0 ≤ k ∧ k ≤ 100000 ∧ xs.length ≤ 100 ∧ R (.tup (repD k.toNat xs)) m
  | _, _ => False
def wMod : W2 := fun d e m R => match d, e with
  | .int i, .int j => 0 < j ∧ R (.int (i % j)) m
  | _, _ => False
def wDiv : W2 := fun d e m R => match d, e with
  | .int i, .int j => (0 < j ∧ j < 1073741824) ∧ R (.int (i / j)) m
  | _, _ => False
def wPow : W2 := fun d e m R => match d, e with
  | .int i, .int j => (0 ≤ j ∧ j ≤ 1000000 ∧ i.natAbs < 2 ^ 64) ∧ R (.int (i ^ j.toNat)) m
  | _, _ => False
def wNeg : W1 := fun d m R => match d with
  | .int i => R (.int (-i)) m
  | _ => False
def ixL (n : Nat) (i : Int) : Option Nat := if 0 ≤ i then (if i < n then some i.toNat else none) else if -(n : Int) ≤ i then some (i + n).toNat else none
def atL {α : Type} (xs : List α) (i : Int) : Option α := (ixL xs.length i).bind fun j => xs[j]?
def wIx : W2 := fun d e m R => match d, e with
  | .str s, .int i => s.length ≤ LIM ∧ ok (atL s.cps.toList i) fun c => R (.str ⟨#[c]⟩) m
  | d, .int i => ok (asQ m d) fun xs => ok (atL xs i) fun v => R v m
  | _, _ => False
def sIxD (n d : Nat) : Option Int → Nat
  | none => d
  | some i => if i < 0 then (i + n).toNat else min i.toNat n
def cutL {α : Type} (xs : List α) (lo hi : Option Int) : List α := (xs.drop (sIxD xs.length 0 lo)).take (sIxD xs.length xs.length hi - sIxD xs.length 0 lo)
def wCut (b : Bool) : D → Option Int → Option Int → Store → KD → Prop := fun d lo hi m R => match d with
  | .tup xs => R (.tup (cutL xs lo hi)) m
  | .str s => s.length ≤ LIM ∧ R (.str ⟨(cutL s.cps.toList lo hi).toArray⟩) m
  | d => ok (asL m d) fun xs => wNw b (cutL xs lo hi) m R
end DL
end
section
set_option maxHeartbeats 0
namespace DL
open PySem PySem.Spec PyProof.Rows L2
section
variable {X : Cx} {K : PySem.W.Frag} {B H : Hp} {m : Store}
theorem seqL {v : V} {d : D} {ds : List D} (S : SRp K B H m) (p : Dp K B v d) (h : asL m d = some ds) : ∃ a vs, v = .ref a ∧ H a = some (.lst vs) ∧ DpAll K B vs ds := by
  cases p with
  | lst h1 h2 => cases h; exact ⟨_, _, rfl, S.same _ _ h1, h2⟩
  | ref a =>
    simp only [asL] at h
    cases q : m a with
    | none => rw [q] at h; cases h
    | some o => rw [q] at h; cases o with
      | lst xs => cases h; obtain ⟨vs, e, r⟩ := S.list q; exact ⟨a, vs, rfl, e, r⟩
      | _ => cases h
  | _ => cases h
theorem scr_dp : ∀ (ns : List Int), DpAll K B (ns.map V.int) (ns.map .int)
  | [] => .nil
  | n :: ns => .cons (.int n) (scr_dp ns)
theorem seqQ {v : V} {d : D} {ds : List D} (S : SRp K B H m) (p : Dp K B v d) (h : asQ m d = some ds) : ∃ a vs, v = .ref a ∧ (SqL K H a vs ∨ SqT K H a vs) ∧ DpAll K B vs ds := by
  cases d with
  | tup xs => cases h; cases p with | tup h1 h2 => exact ⟨_, _, rfl, .inr (sqT_mono S.same h1), h2⟩
  | scr ns => cases h; cases p with | scr h1 => exact ⟨_, _, rfl, .inl (S.same.seq h1), scr_dp ns⟩
  | lst xs => obtain ⟨a, vs, e, h1, h2⟩ := seqL S p h; exact ⟨a, vs, e, .inl (.inl (.inl h1)), h2⟩
  | ref a => obtain ⟨a, vs, e, h1, h2⟩ := seqL S p h; exact ⟨a, vs, e, .inl (.inl (.inl h1)), h2⟩
  | _ => cases h
theorem ixL_eq : @ixL = @ixN := rfl
theorem atL_eq {α : Type} (xs : List α) (i : Int) : atL xs i = atI xs i := rfl
theorem atL_get {vs : List V} {ds : List D} {i : Int} {d : D} (p : DpAll K B vs ds) (h : atL ds i = some d) : ∃ v, atI vs i = some v ∧ Dp K B v d := by
  unfold atL at h
  unfold atI
  rw [← ixL_eq, p.length]
  cases q : ixL ds.length i with
  | none => rw [q] at h; cases h
  | some j => rw [q] at h; exact p.get h
theorem sIxD_eq (n d : Nat) : ∀ o, sIxD n d o = HT.sIx n d o
  | none => rfl
  | some i => rfl
theorem cutL_v (xs : List V) (lo hi : Option Int) : cutV xs lo hi = cutL xs lo hi := by unfold cutV cutL; rw [sIxD_eq, sIxD_eq]
theorem DpAll.cut {vs : List V} {ds : List D} (p : DpAll K B vs ds) (lo hi : Option Int) : DpAll K B (cutL vs lo hi) (cutL ds lo hi) := by
  unfold cutL
  rw [p.length]
  exact (p.drop _).take _
theorem DpAll.rep {vs : List V} {ds : List D} (p : DpAll K B vs ds) : ∀ k, DpAll K B (List.replicate k vs).flatten (repD k ds)
  | 0 => .nil
  | k + 1 => by unfold repD; rw [List.replicate_succ, List.flatten_cons, List.replicate_succ, List.flatten_cons]; exact p.append (DpAll.rep p k)
theorem add_ {b : Bool} : OpD X (binaryOp .Add) (wAdd b) := by
  refine ⟨_, (op_add.or op_add_str).or (op_catA.or op_cat), fun B u v d e p q H m R Q S h t => ?_⟩
  cases p with
  | int i => cases q with
    | int j => exact .inl (.inl ⟨i, j, rfl, rfl, eff_ret S t (.int _) h⟩)
    | _ => obtain ⟨xs, ys, h1, _⟩ := h; cases h1
  | str s => cases q with
    | str s2 => exact .inl (.inr ⟨s, s2, rfl, rfl, by rw [← LIM_eq]; exact h.1, eff_ret S t (.str _) h.2⟩)
    | _ => obtain ⟨xs, ys, h1, _⟩ := h; cases h1
  | tup h1 h2 => cases q with
    | tup h3 h4 =>
      refine .inr (.inl ⟨_, _, _, _, rfl, rfl, sqT_mono S.same h1, sqT_mono S.same h3, by rw [← LIM_eq, h2.length, h4.length]; exact h.1, fun z => ?_, fun z1 z2 => ?_, fun z1 z2 => eff_tup S t (h2.append h4) h.2⟩)
      · subst z; cases h2; exact eff_ret S t (.tup h3 h4) h.2
      · subst z2; cases h4
        have h' := h.2
        rw [List.append_nil] at h'
        exact eff_ret S t (.tup h1 h2) h'
    | _ => obtain ⟨xs, ys, h1, _⟩ := h; cases h1
  | lst h1 h2 =>
    obtain ⟨xs, ys, g1, g2, g3, g4⟩ : ∃ xs ys, asL m (.lst _) = some xs ∧ asL m e = some ys ∧ xs.length + ys.length ≤ LIM ∧ wNw b (xs ++ ys) m R := by cases q <;> exact h
    obtain ⟨a, vs, ea, ha, pa⟩ := seqL S (.lst h1 h2) g1
    obtain ⟨b', ws, eb, hb, pb⟩ := seqL S q g2
    exact .inr (.inr ⟨a, b', vs, ws, ea, eb, ha, hb, by rw [← LIM_eq, pa.length, pb.length]; exact g3, eff_nw S t (pa.append pb) g4⟩)
  | ref a0 =>
    obtain ⟨xs, ys, g1, g2, g3, g4⟩ : ∃ xs ys, asL m (.ref a0) = some xs ∧ asL m e = some ys ∧ xs.length + ys.length ≤ LIM ∧ wNw b (xs ++ ys) m R := by cases q <;> exact h
    obtain ⟨a, vs, ea, ha, pa⟩ := seqL S (.ref a0) g1
    obtain ⟨b', ws, eb, hb, pb⟩ := seqL S q g2
    exact .inr (.inr ⟨a, b', vs, ws, ea, eb, ha, hb, by rw [← LIM_eq, pa.length, pb.length]; exact g3, eff_nw S t (pa.append pb) g4⟩)
  | _ => exfalso; cases q <;> (obtain ⟨xs, ys, h1, _⟩ := h; cases h1)
theorem sub_ : OpD X (binaryOp .Sub) wSub := by
  refine ⟨_, op_sub, fun B u v d e p q H m R Q S h t => ?_⟩
  cases p with
  | int i => cases q with
    | int j => exact ⟨i, j, rfl, rfl, eff_ret S t (.int _) h⟩
    | _ => exact h.elim
  | _ => exfalso; cases q <;> exact h
theorem mod_ : OpD X (binaryOp .Mod) wMod := by
  refine ⟨_, op_mod, fun B u v d e p q H m R Q S h t => ?_⟩
  cases p with
  | int i => cases q with
    | int j => exact ⟨i, j, rfl, rfl, h.1, eff_ret S t (.int _) h.2⟩
    | _ => exact h.elim
  | _ => exfalso; cases q <;> exact h
theorem div_ : OpD X (binaryOp .FloorDiv) wDiv := by
  refine ⟨_, op_fdiv, fun B u v d e p q H m R Q S h t => ?_⟩
  cases p with
  | int i => cases q with
    | int j => exact ⟨i, j, rfl, rfl, h.1, eff_ret S t (.int _) h.2⟩
    | _ => exact h.elim
  | _ => exfalso; cases q <;> exact h
theorem pow_ : OpD X (binaryOp .Pow) wPow := by
  refine ⟨_, op_pow, fun B u v d e p q H m R Q S h t => ?_⟩
  cases p with
  | int i => cases q with
    | int j => exact ⟨i, j, rfl, rfl, h.1, eff_ret S t (.int _) h.2⟩
    | _ => exact h.elim
  | _ => exfalso; cases q <;> exact h
theorem foldl_app {α : Type} : ∀ (n : Nat) (xs acc : List α), (List.replicate n xs.toArray).foldl (· ++ ·) acc.toArray = (acc ++ (List.replicate n xs).flatten).toArray
  | 0, xs, acc => by simp
  | n + 1, xs, acc => by
    rw [List.replicate_succ, List.foldl_cons, List.append_toArray, foldl_app n xs (acc ++ xs), List.replicate_succ, List.flatten_cons, List.append_assoc]
theorem txt_mul (s : Str) (k : Int) : Txt.mul s k = ⟨(List.replicate k.toNat s.cps.toList).flatten.toArray⟩ := by
  unfold Txt.mul
  by_cases h1 : k < 1
  · rw [if_pos h1]
    have e : k.toNat = 0 := by omega
    rw [e]; rfl
  · rw [if_neg h1]
    by_cases h2 : (k == 1 || s.length == 0) = true
    · rw [if_pos h2]
      obtain ⟨⟨l⟩⟩ := s
      rcases (Bool.or_eq_true _ _).mp h2 with z | z
      · have e : k = 1 := by simpa using z
        subst e
        show _ = (⟨([l].flatten).toArray⟩ : Str)
        simp
      · have e : l = [] := by
          have : l.toArray.size = 0 := by simpa [PySem.Str.length] using z
          simpa using this
        subst e
        have : ∀ n, (List.replicate n ([] : List Nat)).flatten = [] := fun n => by induction n with
          | zero => rfl
          | succ n ih => rw [List.replicate_succ, List.flatten_cons, ih]; rfl
        simp
    · rw [if_neg h2]
      obtain ⟨⟨l⟩⟩ := s
      have := foldl_app k.toNat l []
      rw [List.nil_append] at this
      exact congrArg _ this
def rMulS : R2 := fun x y H Q => ∃ s k, x = .str s ∧ y = .int k ∧ (s.length ≤ 16 ∧ -(2 ^ 63) ≤ k ∧ k ≤ 1048576) ∧ Q (.str ⟨(List.replicate k.toNat s.cps.toList).flatten.toArray⟩) H
theorem op_mulS : OpR X (binaryOp .Mult) rMulS := by
  intro pins s σ H x y v u Q I rx ry h
  obtain ⟨z, k, rfl, rfl, ⟨h1, h2, h3⟩, q⟩ := h
  obtain ⟨t, rfl⟩ := rx
  obtain ⟨t2, rfl⟩ := ry
  refine PySem.W.KXi.mul rfl h1 h2 h3 fun t' k' _ _ => ?_
  rw [txt_mul]
  exact ⟨.str _, H, I.kept (t' := k') fun _ _ z => z, ⟨_, rfl⟩, q⟩
theorem mul_ {b : Bool} : OpD X (binaryOp .Mult) (wMul b) := by
  refine ⟨_, (op_mul.or op_rep).or op_mulS, fun B u v d e p q H m R Q S h t => ?_⟩
  cases p with
  | int i => cases q with
    | int j => exact .inl (.inl ⟨i, j, rfl, rfl, h.1, eff_ret S t (.int _) h.2⟩)
    | _ => exact h.elim
  | str i => cases q with
    | int j => exact .inr ⟨i, j, rfl, rfl, h.1, eff_ret S t (.str _) h.2⟩
    | _ => exact h.elim
  | lst h1 h2 => cases q with
    | int k =>
      obtain ⟨xs, g1, g2, g3, g4, g5⟩ := h
      obtain ⟨a, vs, ea, ha, pa⟩ := seqL S (.lst h1 h2) g1
      exact .inl (.inr ⟨a, k, vs, ea, rfl, ha, g2, g3, by rw [← LIM_eq, pa.length]; exact g4, eff_nw S t (pa.rep _) g5⟩)
    | _ => exact h.elim
  | ref a0 => cases q with
    | int k =>
      obtain ⟨xs, g1, g2, g3, g4, g5⟩ := h
      obtain ⟨a, vs, ea, ha, pa⟩ := seqL S (.ref a0) g1
      exact .inl (.inr ⟨a, k, vs, ea, rfl, ha, g2, g3, by rw [← LIM_eq, pa.length]; exact g4, eff_nw S t (pa.rep _) g5⟩)
    | _ => exact h.elim
  | _ => exfalso; cases q with
    | int k => obtain ⟨xs, g1, _⟩ := h; cases g1
    | _ => exact h
theorem neg_ : UnD X (unaryOp .USub) wNeg := by
  refine ⟨_, un_neg, fun B u d p H m R Q S h t => ?_⟩
  cases p with
  | int i => exact ⟨i, rfl, eff_ret S t (.int _) h⟩
  | _ => exact h.elim
theorem le_ : OpD X (compareOp .LtE) wLe := by
  refine ⟨_, op_le.or op_le_str, fun B u v d e p q H m R Q S h t => ?_⟩
  cases p with
  | int i => cases q with
    | int j => exact .inl ⟨i, j, rfl, rfl, eff_ret S t (.bl _) h⟩
    | _ => exact h.elim
  | str i => cases q with
    | str j => exact .inr ⟨i, j, rfl, rfl, eff_ret S t (.bl _) h⟩
    | _ => exact h.elim
  | _ => exfalso; cases q <;> exact h
theorem gt_ : OpD X (compareOp .Gt) wGt := by
  refine ⟨_, op_gt.or op_gt_str, fun B u v d e p q H m R Q S h t => ?_⟩
  cases p with
  | int i => cases q with
    | int j => exact .inl ⟨i, j, rfl, rfl, eff_ret S t (.bl _) h⟩
    | _ => exact h.elim
  | str i => cases q with
    | str j => exact .inr ⟨i, j, rfl, rfl, eff_ret S t (.bl _) h⟩
    | _ => exact h.elim
  | _ => exfalso; cases q <;> exact h
theorem ge_ : OpD X (compareOp .GtE) wGe := by
  refine ⟨_, op_ge.or op_ge_str, fun B u v d e p q H m R Q S h t => ?_⟩
  cases p with
  | int i => cases q with
    | int j => exact .inl ⟨i, j, rfl, rfl, eff_ret S t (.bl _) h⟩
    | _ => exact h.elim
  | str i => cases q with
    | str j => exact .inr ⟨i, j, rfl, rfl, eff_ret S t (.bl _) h⟩
    | _ => exact h.elim
  | _ => exfalso; cases q <;> exact h
theorem lt_ : OpD X (compareOp .Lt) wLt := by
  refine ⟨_, op_lt.or op_lt_str, fun B u v d e p q H m R Q S h t => ?_⟩
  cases p with
  | int i => cases q with
    | int j => exact .inl ⟨i, j, rfl, rfl, eff_ret S t (.bl _) h⟩
    | _ => exact h.elim
  | str i => cases q with
    | str j => exact .inr ⟨i, j, rfl, rfl, eff_ret S t (.bl _) h⟩
    | _ => exact h.elim
  | _ => exfalso; cases q <;> exact h
mutual
def toPy : D → PyData
  | .non => .none
  | .bl b => .bool b
  | .int i => .int i
  | .str s => .str s
  | .tup xs => .tuple (toPys xs)
  | .lst xs => .list (toPys xs)
  | _ => .none
def toPys : List D → List PyData
  | [] => []
  | x :: xs => toPy x :: toPys xs
end
mutual
theorem toPy_eq : ∀ (d e : D) (n k : Nat), dOk d n = true → dOk e k = true → PyData.eqv (toPy d) (toPy e) = eqD d e
  | .non, e, n, k, hd, he => by cases e <;> simp [toPy, PyData.eqv, eqD, dOk] at *
  | .bl b, e, n, k, hd, he => by cases e <;> simp [toPy, PyData.eqv, eqD, dOk] at * <;> rfl
  | .int i, e, n, k, hd, he => by cases e <;> simp [toPy, PyData.eqv, eqD, dOk] at * <;> rfl
  | .str s, e, n, k, hd, he => by cases e <;> simp [toPy, PyData.eqv, eqD, dOk] at * <;> rfl
  | .tup xs, e, n, k, hd, he => by
    cases e with
    | tup ys =>
      cases n with
      | zero => simp [dOk] at hd
      | succ n => cases k with
        | zero => simp [dOk] at he
        | succ k =>
          rw [toPy, toPy, PyData.eqv, eqD]
          exact toPys_eq xs ys n k (by simpa [dOk] using hd) (by simpa [dOk] using he)
    | _ => simp [toPy, PyData.eqv, eqD, dOk] at *
  | .lst xs, e, n, k, hd, he => by
    cases e with
    | lst ys =>
      cases n with
      | zero => simp [dOk] at hd
      | succ n => cases k with
        | zero => simp [dOk] at he
        | succ k =>
          rw [toPy, toPy, PyData.eqv, eqD]
          exact toPys_eq xs ys n k (by simpa [dOk] using hd) (by simpa [dOk] using he)
    | _ => simp [toPy, PyData.eqv, eqD, dOk] at *
  | .ref a, e, n, k, hd, he => by simp [dOk] at hd
  | .scr a, e, n, k, hd, he => by simp [dOk] at hd
  | .ty a, e, n, k, hd, he => by simp [dOk] at hd
theorem toPys_eq : ∀ (xs ys : List D) (n k : Nat), dOks xs n = true → dOks ys k = true → PyData.eqvAll (toPys xs) (toPys ys) = eqDs xs ys
  | [], [], _, _, _, _ => rfl
  | [], _ :: _, _, _, _, _ => rfl
  | _ :: _, [], _, _, _, _ => rfl
  | x :: xs, y :: ys, n, k, hx, hy => by
    have h1 : dOk x n = true ∧ dOks xs n = true := by simpa [dOks] using hx
    have h2 : dOk y k = true ∧ dOks ys k = true := by simpa [dOks] using hy
    rw [toPys, toPys, PyData.eqvAll, eqDs, toPy_eq x y n k h1.1 h2.1, toPys_eq xs ys n k h1.2 h2.2]
end
mutual
theorem toPy_lay : ∀ (d : D) (n : Nat), dOk d n = true → (toPy d).canLay0 = true ∧ (toPy d).depth ≤ n
  | .non, n, h => ⟨by simp [toPy, PyData.canLay0], by simp [toPy, PyData.depth]⟩
  | .bl b, n, h => ⟨by simp [toPy, PyData.canLay0], by simp [toPy, PyData.depth]⟩
  | .int i, n, h => ⟨by simp [toPy, PyData.canLay0], by simp [toPy, PyData.depth]⟩
  | .str s, n, h => ⟨by simpa [toPy, PyData.canLay0, PyData.strOk, dOk, okS] using h, by simp [toPy, PyData.depth]⟩
  | .tup xs, 0, h => by simp [dOk] at h
  | .lst xs, 0, h => by simp [dOk] at h
  | .tup xs, n + 1, h => by
    obtain ⟨h1, h2⟩ := toPys_lay xs n (by simpa [dOk] using h)
    exact ⟨by rw [toPy, PyData.canLay0]; exact h1, by rw [toPy, PyData.depth]; omega⟩
  | .lst xs, n + 1, h => by
    obtain ⟨h1, h2⟩ := toPys_lay xs n (by simpa [dOk] using h)
    exact ⟨by rw [toPy, PyData.canLay0]; exact h1, by rw [toPy, PyData.depth]; omega⟩
  | .ref a, n, h => by simp [dOk] at h
  | .scr a, n, h => by simp [dOk] at h
  | .ty a, n, h => by simp [dOk] at h
theorem toPys_lay : ∀ (xs : List D) (n : Nat), dOks xs n = true → PyData.canLayAll0 (toPys xs) = true ∧ PyData.depthAll (toPys xs) ≤ n
  | [], n, _ => ⟨rfl, by simp [toPys, PyData.depthAll]⟩
  | x :: xs, n, h => by
    have h1 : dOk x n = true ∧ dOks xs n = true := by simpa [dOks] using h
    obtain ⟨a1, a2⟩ := toPy_lay x n h1.1
    obtain ⟨b1, b2⟩ := toPys_lay xs n h1.2
    exact ⟨by rw [toPys, PyData.canLayAll0, a1, b1]; rfl, by rw [toPys, PyData.depthAll]; omega⟩
end
theorem toPy_shaped {d : D} {n : Nat} (h : dOk d n = true) (hn : n ≤ 64) : SeqAt.shaped (toPy d) = true := by
  obtain ⟨h1, h2⟩ := toPy_lay d n h
  unfold SeqAt.shaped
  rw [h1, decide_eq_true (by omega)]; rfl
mutual
theorem toPy_dp : ∀ {v : V} {d : D} {n : Nat}, Same B H → Dp K B v d → dOk d n = true → L2.Dp K H v (toPy d)
  | _, _, _, s, .non, _ => .non
  | _, _, _, s, .bl b, _ => .bl b
  | _, _, _, s, .int i, _ => .int i
  | _, _, _, s, .str x, _ => .str x
  | _, _, 0, s, .tup h hs, o => by simp [dOk] at o
  | _, _, 0, s, .lst h hs, o => by simp [dOk] at o
  | _, _, n + 1, s, .tup h hs, o => .tup (sqT_mono s h) (toPys_dp s hs (by simpa [dOk] using o))
  | _, _, n + 1, s, .lst h hs, o => .lst (.inl (.inl (s _ _ h))) (toPys_dp s hs (by simpa [dOk] using o))
  | _, _, _, s, .ref a, o => by simp [dOk] at o
  | _, _, _, s, .scr a, o => by simp [dOk] at o
  | _, _, _, s, .ty a, o => by simp [dOk] at o
theorem toPys_dp : ∀ {vs : List V} {ds : List D} {n : Nat}, Same B H → DpAll K B vs ds → dOks ds n = true → L2.DpAll K H vs (toPys ds)
  | _, _, _, _, .nil, _ => .nil
  | _, _, n, s, .cons h hs, o => by
    rename_i v vs d ds
    have h1 : dOk d n = true ∧ dOks ds n = true := by simpa [dOks] using o
    exact .cons (toPy_dp s h h1.1) (toPys_dp s hs h1.2)
end
theorem rv_dp {v : V} {d : D} {n : Nat} (S : SRp K B H m) (p : Dp K B v d) (o : dOk (rv m d) n = true) : L2.Dp K H v (toPy (rv m d)) := by
  cases d with
  | ref a =>
    simp only [rv] at o ⊢
    cases q : m a with
    | none => rw [q] at o; simp [dOk] at o
    | some mo => cases mo with
      | lst xs =>
        rw [q] at o
        simp only at o ⊢
        obtain ⟨vs, e, r⟩ := S.list q
        have ev : v = .ref a := by cases p; rfl
        subst ev
        cases n with
        | zero => simp [dOk] at o
        | succ n => exact .lst (.inl (.inl e)) (toPys_dp S.same r (by simpa [dOk] using o))
      | _ => rw [q] at o; simp [dOk] at o
  | _ => exact toPy_dp S.same p o
theorem eq_ (hu : X.A.units + 64 < cLine) : OpD X (compareOp .Eq) wEq := by
  refine ⟨_, op_eq.or (op_eqD hu), fun B u v d e p q H m R Q S h t => ?_⟩
  have deep : dOk (rv m d) 60 = true ∧ dOk (rv m e) 60 = true ∧ R (.bl (eqD (rv m d) (rv m e))) m → rEqD X.K u v H Q := fun ⟨h1, h2, h3⟩ => by
    refine ⟨_, _, rv_dp S p h1, rv_dp S q h2, toPy_shaped h1 (by decide), toPy_shaped h2 (by decide), ?_⟩
    rw [toPy_eq _ _ _ _ h1 h2]
    exact eff_ret S t (.bl _) h3
  cases p with
  | str s => cases q with
    | str s2 =>
      refine .inl ⟨rfl, ?_⟩
      have e : decide (V.str s = V.str s2) = decide (s = s2) := by by_cases z : s = s2 <;> simp [z]
      rw [e]; exact eff_ret S t (.bl _) h
    | _ => exact .inr (deep h)
  | int i => cases q with
    | int j =>
      refine .inl ⟨rfl, ?_⟩
      have e : decide (V.int i = V.int j) = decide (i = j) := by by_cases z : i = j <;> simp [z]
      rw [e]; exact eff_ret S t (.bl _) h
    | _ => exact .inr (deep h)
  | _ => cases q <;> exact .inr (deep h)
theorem scr_L2 : ∀ (ns : List Int), L2.DpAll K H (ns.map V.int) (ns.map PyData.int)
  | [] => .nil
  | n :: ns => .cons (.int n) (scr_L2 ns)
theorem scr_sh (ns : List Int) : SeqAt.shaped (PyData.list (ns.map PyData.int)) = true := by
  have h1 : ∀ ns : List Int, PyData.canLayAll0 (ns.map PyData.int) = true := fun ns => by induction ns with
    | nil => rfl
    | cons n ns ih => simp [PyData.canLayAll0, PyData.canLay0, ih]
  have h2 : ∀ ns : List Int, PyData.depthAll (ns.map PyData.int) ≤ 0 := fun ns => by induction ns with
    | nil => simp [PyData.depthAll]
    | cons n ns ih => simp [PyData.depthAll, PyData.depth]; simpa using ih
  unfold SeqAt.shaped
  rw [Bool.and_eq_true]
  refine ⟨by simp [PyData.canLay0, h1], decide_eq_true ?_⟩
  have := h2 ns
  simp only [PyData.depth]
  omega
theorem eqS_ (hu : X.A.units + 64 < cLine) : OpD X (compareOp .Eq) wEqS := by
  refine ⟨_, op_eqD hu, fun B u v d e p q H m R Q S h t => ?_⟩
  match d, e, h with
  | .scr ns, .lst [], h =>
    cases p with
    | scr hs => cases q with
      | lst h1 h2 =>
        cases h2
        refine ⟨.list (ns.map PyData.int), .list [], .lst (S.same.seq hs) (scr_L2 ns), .lst (.inl (.inl (S.same _ _ h1))) .nil, scr_sh ns, by rfl, ?_⟩
        have e : PyData.eqv (.list (ns.map PyData.int)) (.list []) = ns.isEmpty := by
          cases ns <;> simp [PyData.eqv, PyData.eqvAll]
        rw [e]
        exact eff_ret S t (.bl _) h
theorem ne_ (hu : X.A.units + 64 < cLine) : OpD X (compareOp .NotEq) wNe := by
  refine ⟨_, op_ne.or (op_neD hu), fun B u v d e p q H m R Q S h t => ?_⟩
  have deep : dOk (rv m d) 60 = true ∧ dOk (rv m e) 60 = true ∧ R (.bl (!eqD (rv m d) (rv m e))) m → rNeD X.K u v H Q := fun ⟨h1, h2, h3⟩ => by
    refine ⟨_, _, rv_dp S p h1, rv_dp S q h2, toPy_shaped h1 (by decide), toPy_shaped h2 (by decide), ?_⟩
    rw [toPy_eq _ _ _ _ h1 h2]
    exact eff_ret S t (.bl _) h3
  cases p with
  | str s => cases q with
    | str s2 =>
      refine .inl ⟨rfl, ?_⟩
      have e : decide (V.str s = V.str s2) = decide (s = s2) := by by_cases z : s = s2 <;> simp [z]
      rw [e]; exact eff_ret S t (.bl _) h
    | _ => exact .inr (deep h)
  | int i => cases q with
    | int j =>
      refine .inl ⟨rfl, ?_⟩
      have e : decide (V.int i = V.int j) = decide (i = j) := by by_cases z : i = j <;> simp [z]
      rw [e]; exact eff_ret S t (.bl _) h
    | _ => exact .inr (deep h)
  | _ => cases q <;> exact .inr (deep h)
theorem eqV_D {v u : V} {d e : D} (p : Dp K B v d) (q : Dp K B u e) (f : flatD d = true) (g : flatD e = true) : eqV v u = eqD d e := by
  cases p <;> cases q <;> simp [flatD, eqV, eqD] at * <;> rfl
theorem flat_D {v : V} {d : D} (p : Dp K B v d) (f : flatD d = true) : flatV v = true := by
  cases p <;> first | rfl | cases f
theorem flats_D : ∀ {vs : List V} {ds : List D}, DpAll K B vs ds → ds.all flatD = true → vs.all flatV = true
  | _, _, .nil, _ => rfl
  | _, _, .cons h t, f => by
    rw [List.all_cons] at f ⊢
    have f' := Bool.and_eq_true_iff.mp f
    rw [flat_D h f'.1, flats_D t f'.2]; rfl
theorem inV_D {x : V} {d : D} (p : Dp K B x d) (f : flatD d = true) : ∀ {vs : List V} {ds : List D}, DpAll K B vs ds → ds.all flatD = true → inV x vs = inD d ds
  | _, _, .nil, _ => rfl
  | _, _, .cons h t, g => by
    rw [List.all_cons] at g
    have g' := Bool.and_eq_true_iff.mp g
    unfold inV inD
    rw [List.any_cons, List.any_cons, eqV_D h p g'.1 f]
    have ih := inV_D p f t g'.2
    unfold inV inD at ih
    rw [ih]
theorem inPy {d : D} (o : dOk d 60 = true) : ∀ (ds : List D), dOks ds 59 = true → ((toPys ds).any fun z => PyData.eqv z (toPy d)) = inD d ds
  | [], _ => rfl
  | x :: xs, h => by
    have h1 : dOk x 59 = true ∧ dOks xs 59 = true := by simpa [dOks] using h
    have ih := inPy o xs h1.2
    unfold inD at ih ⊢
    rw [toPys, List.any_cons, List.any_cons, toPy_eq x d _ _ h1.1 o, ih]
theorem in_up {neg : Bool} {u v : V} {d e : D} {R : KD} {Q : VK} (S : SRp K B H m) (p : Dp K B u d) (q : Dp K B v e) (h : wInB d e m fun b => R (.bl (if neg then !b else b)) m) (t : Thn K B H m R Q) :
    (∃ (c : Nat) (z : Str), u = .str ⟨#[c]⟩ ∧ v = .str z ∧ Q (.bl (if neg then !decide (c ∈ z.cps.toList) else decide (c ∈ z.cps.toList))) H) ∨ rIn K neg u v H Q ∨
    (∃ d ds, L2.Dp K H u d ∧ L2.Dp K H v (.list ds) ∧ SeqAt.shaped d = true ∧ SeqAt.shaped (.list ds) = true ∧ Q (.bl (if neg then !(ds.any fun z => PyData.eqv z d) else (ds.any fun z => PyData.eqv z d))) H) := by
  have lst : (∃ xs, asL m e = some xs ∧ ((flatD d = true ∧ xs.all flatD = true) ∨ (dOk d 60 = true ∧ dOks xs 59 = true)) ∧ R (.bl (if neg then !inD d xs else inD d xs)) m) → rIn K neg u v H Q ∨
      (∃ d ds, L2.Dp K H u d ∧ L2.Dp K H v (.list ds) ∧ SeqAt.shaped d = true ∧ SeqAt.shaped (.list ds) = true ∧ Q (.bl (if neg then !(ds.any fun z => PyData.eqv z d) else (ds.any fun z => PyData.eqv z d))) H) := fun ⟨xs, h1, h2, h3⟩ => by
    obtain ⟨a, vs, ea, ha, pa⟩ := seqL S q h1
    rcases h2 with ⟨f, g⟩ | ⟨f, g⟩
    · refine .inl ⟨a, vs, ea, .inl (.inl (.inl ha)), flat_D p f, flats_D pa g, ?_⟩
      rw [inV_D p f pa g]
      exact eff_ret S t (.bl _) h3
    · refine .inr ⟨toPy d, toPys xs, toPy_dp S.same p f, ?_, toPy_shaped f (by decide), toPy_shaped (d := .lst xs) (n := 60) (by simpa [dOk] using g) (by decide), ?_⟩
      · subst ea; exact .lst (.inl (.inl ha)) (toPys_dp S.same pa g)
      · rw [inPy f xs g]; exact eff_ret S t (.bl _) h3
  cases q with
  | str z =>
    obtain ⟨c, ec, h⟩ := h
    subst ec
    cases p
    exact .inl ⟨c, z, rfl, rfl, eff_ret S t (.bl _) h⟩
  | tup h1 h2 =>
    obtain ⟨f, g, h⟩ := h
    refine .inr (.inl ⟨_, _, rfl, .inr (sqT_mono S.same h1), flat_D p f, flats_D h2 g, ?_⟩)
    rw [inV_D p f h2 g]
    exact eff_ret S t (.bl _) h
  | _ => exact .inr (lst h)
theorem in_ (hu : X.A.units + 65 < cLine) : OpD X (compareOp .In) wIn := by
  refine ⟨_, op_in_sign.or (op_in_seq.or (op_inD hu)), fun B u v d e p q H m R Q S h t => ?_⟩
  have z := in_up (neg := false) S p q h t
  rcases z with z | z | z
  · exact .inl z
  · exact .inr (.inl z)
  · exact .inr (.inr z)
theorem notin_ (hu : X.A.units + 65 < cLine) : OpD X (compareOp .NotIn) wNotIn := by
  refine ⟨_, op_notIn_sign.or (op_notIn_seq.or (op_notInD hu)), fun B u v d e p q H m R Q S h t => ?_⟩
  have z := in_up (neg := true) S p q h t
  rcases z with z | z | z
  · exact .inl z
  · exact .inr (.inl z)
  · exact .inr (.inr z)
theorem isN_ : OpD X (compareOp .Is) wIsN := by
  refine ⟨_, op_isN, fun B u v d e p q H m R Q S h t => ?_⟩
  obtain ⟨ee, h⟩ := h
  subst ee
  cases q
  refine ⟨rfl, ?_⟩
  cases p <;> first | exact eff_ret S t (.bl _) h | exact h.elim
theorem notN_ : OpD X (compareOp .IsNot) wNotN := by
  refine ⟨_, op_notN, fun B u v d e p q H m R Q S h t => ?_⟩
  obtain ⟨ee, h⟩ := h
  subst ee
  cases q
  refine ⟨rfl, ?_⟩
  cases p <;> first | exact eff_ret S t (.bl _) h | exact h.elim
theorem ix_ : IxD X wIx := by
  refine ⟨_, ix_seq, fun B u v d e p q H m R Q S h t => ?_⟩
  cases q with
  | int i =>
    have seq : (ok (asQ m d) fun xs => ok (atL xs i) fun v => R v m) → rIx X.K u (.int i) H Q := fun h => by
      obtain ⟨xs, h1, h⟩ := ok_iff.mp h
      obtain ⟨z, h2, h⟩ := ok_iff.mp h
      obtain ⟨a, vs, ea, hq, pa⟩ := seqQ S p h1
      obtain ⟨w, e1, pw⟩ := atL_get pa h2
      rcases hq with hq | hq
      · exact .inl ⟨a, vs, i, w, ea, rfl, hq, e1, eff_ret S t pw h⟩
      · exact .inr (.inl ⟨a, vs, i, w, ea, rfl, hq, e1, eff_ret S t pw h⟩)
    cases p with
    | str s =>
      obtain ⟨hl, h⟩ := h
      obtain ⟨c, h1, h⟩ := ok_iff.mp h
      exact .inr (.inr ⟨s, i, c, rfl, rfl, by rw [← LIM_eq]; exact hl, h1, eff_ret S t (.str _) h⟩)
    | _ => exact seq h
  | _ => exfalso; cases p <;> exact h
theorem cut_ {b : Bool} : SlD X (wCut b) := by
  refine ⟨_, (sl_list.or sl_tupA).or sl_str, fun B u d lo hi p H m R Q S h t => ?_⟩
  cases p with
  | tup h1 h2 =>
    rename_i a0 vs0 ds0
    refine .inl (.inr ⟨_, _, rfl, sqT_mono S.same h1, fun z => ?_, fun z => ?_⟩)
    · have e : cutL ds0 lo hi = ds0 := by
        unfold cutL
        rw [sIxD_eq, sIxD_eq, ← h2.length, z.1, z.2, List.drop_zero, Nat.sub_zero, h2.length, List.take_length]
      have h' : R (.tup (cutL ds0 lo hi)) m := h
      rw [e] at h'
      exact eff_ret S t (.tup h1 h2) h'
    · rw [cutL_v]
      exact eff_tup S t (h2.cut lo hi) h
  | str s =>
    refine .inr ⟨s, rfl, by rw [← LIM_eq]; exact h.1, ?_⟩
    have e : cutS s lo hi = ⟨(cutL s.cps.toList lo hi).toArray⟩ := by
      unfold cutS cutL
      rw [sIxD_eq, sIxD_eq, Array.length_toList]
      rfl
    rw [e]
    exact eff_ret S t (.str _) h.2
  | lst h1 h2 =>
    rename_i a1 vs1 ds1
    have h : ok (asL m (.lst ds1)) fun xs => wNw b (cutL xs lo hi) m R := h
    obtain ⟨xs, g1, g2⟩ := ok_iff.mp h
    obtain ⟨a, vs, ea, ha, pa⟩ := seqL S (.lst h1 h2) g1
    refine .inl (.inl ⟨a, vs, ea, .inl (.inl ha), ?_⟩)
    rw [cutL_v]
    exact eff_nw S t (pa.cut lo hi) g2
  | ref a0 =>
    have h : ok (asL m (.ref a0)) fun xs => wNw b (cutL xs lo hi) m R := h
    obtain ⟨xs, g1, g2⟩ := ok_iff.mp h
    obtain ⟨a, vs, ea, ha, pa⟩ := seqL S (.ref a0) g1
    refine .inl (.inl ⟨a, vs, ea, .inl (.inl ha), ?_⟩)
    rw [cutL_v]
    exact eff_nw S t (pa.cut lo hi) g2
  | _ => exact h.elim
end
end DL
end
section
set_option maxHeartbeats 0
namespace DL
open PySem PySem.Spec PyProof.Rows L2
section
variable {X : Cx} {W : WX} {a b c o e : Expr} {fa fb fc : WE} {pos p apos : Pos} {es : List Expr} {ga : WA}
theorem irp_at {K : PySem.W.Frag} {B : Hp} {J : It} {vs : List V} {ds : List D} {G : Store → Prop} {P : Hp → Prop} (w : Walk J vs.length P (YAt vs)) (hp : DpAll K B vs ds) (hG : ∀ B' H m, Same B B' → SRp K B' H m → G m → P H) : IRp K B J ds G := by
  refine ⟨fun i B' H m hi s S g => w.goes i H (by rw [hp.length]; exact hi) (hG B' H m s S g), fun B' H m s S g => by rw [← hp.length]; exact w.stops H (hG B' H m s S g), fun i B' H m x H' hi s S g y => ?_⟩
  obtain ⟨e, ex⟩ := w.yields i H x H' (by rw [hp.length]; exact hi) (hG B' H m s S g) y
  subst e
  obtain ⟨v, h1, h2⟩ := hp.get (List.getElem?_eq_getElem hi)
  rw [ex] at h1
  cases h1
  exact ⟨B', _, List.getElem?_eq_getElem hi, Same.refl _, S, Frm.refl, h2.mono s⟩
def tAny (K : PySem.W.Frag) (tl : TE) : TI := fun σ H R => tl σ H fun x H1 => (∃ a, x = .ref a ∧ (∃ xs, SqL K H1 a xs) ∧ R (Itl K a) H1) ∨ (∃ a, x = .ref a ∧ (∃ xs, SqT K H1 a xs) ∧ R (Itt K a) H1) ∨ (∃ y, x = .str y ∧ R (Its y) H1)
theorem pi_any {tg l : Expr} {tl : TE} (hl : PE X l tl) : PI X tg l (tAny X.K tl) := by
  refine ⟨fun pins s σ H R I h => ?_⟩
  refine thn (hl.run pins s σ H _ I h) fun v s1 ⟨x, H1, I1, r1, q1⟩ => ?_
  rcases q1 with ⟨a, e, ⟨xs, hq⟩, q⟩ | ⟨a, e, ⟨xs, hq⟩, q⟩ | ⟨y, e, q⟩
  · subst e
    cases r1
    obtain ⟨its, rv, p, hz⟩ := I1.list hq
    refine wpAny_pyIter_list p.isList ?_
    refine ⟨s1.heap.objs.size, [s1.heap.objs.size], _, _, H1, rfl, I1.kept (t' := s1.toks) fun b o e => Heap.get?_push_of_some _ e, turn_list a _, ⟨_, Heap.get?_push_size _ rfl, rfl, rfl⟩, fun b hb => ?_, q⟩
    have e : b = s1.heap.objs.size := by simpa using hb
    subst e
    exact I1.fpOk (Nat.le_refl _) (I1.hok.fresh (Nat.le_refl _))
  · subst e
    cases r1
    obtain ⟨its, rv, p, hz⟩ := I1.tuple hq
    refine wpAny_pyIter_tuple (show s1.heap.IsTuple a its.toArray from p) ?_
    refine ⟨s1.heap.objs.size, [s1.heap.objs.size], _, _, H1, rfl, I1.kept (t' := s1.toks) fun b o e => Heap.get?_push_of_some _ e, turn_tuple a _, ⟨_, Heap.get?_push_size _ rfl, rfl, rfl⟩, fun b hb => ?_, q⟩
    have e : b = s1.heap.objs.size := by simpa using hb
    subst e
    exact I1.fpOk (Nat.le_refl _) (I1.hok.fresh (Nat.le_refl _))
  · subst e
    obtain ⟨t, rfl⟩ := r1
    cases ha : y.cps.all (· < 128)
    · exact wpAny_pyIter_wide ha (pi_one (tk := s1.toks) I1 _ (turn_str _ y t "str_iterator" (.inr rfl)) ⟨_, Heap.get?_push_size _ rfl, rfl, rfl⟩ q)
    · exact wpAny_pyIter_ascii ha (pi_one (tk := s1.toks) I1 _ (turn_str _ y t "str_ascii_iterator" (.inl rfl)) ⟨_, Heap.get?_push_size _ rfl, rfl, rfl⟩ q)
theorem irp_str {K : PySem.W.Frag} {B : Hp} {z : Str} : IRp K B (Its z) (z.cps.toList.map fun c => .str ⟨#[c]⟩) (fun _ => True) := by
  have w := walk_str (z := z)
  have e : (z.cps.toList.map fun c => D.str ⟨#[c]⟩).length = z.cps.size := by simp
  refine ⟨fun i B' H m hi s S g => w.goes i H (by rw [← e]; exact hi) trivial, fun B' H m s S g => by rw [e]; exact w.stops H trivial, fun i B' H m x H' hi s S g y => ?_⟩
  obtain ⟨e1, c, hc, ex⟩ := w.yields i H x H' (by rw [← e]; exact hi) trivial y
  subst e1
  subst ex
  refine ⟨B', _, ?_, Same.refl _, S, Frm.refl, .str _⟩
  rw [List.getElem?_map, Array.getElem?_toList, hc]; rfl
theorem asI_up {K : PySem.W.Frag} {B H : Hp} {m : Store} {v : V} {d : D} {Kd : List D → (Store → Prop) → Prop} {R : It → Hp → Prop} (S : SRp K B H m) (p : Dp K B v d) (h : asI m d Kd) (q : ∀ J ds G, IRp K B J ds G → Kd ds G → R J H) :
    (∃ a, v = .ref a ∧ (∃ xs, SqL K H a xs) ∧ R (Itl K a) H) ∨ (∃ a, v = .ref a ∧ (∃ xs, SqT K H a xs) ∧ R (Itt K a) H) ∨ (∃ y, v = .str y ∧ R (Its y) H) := by
  cases p with
  | tup h1 h2 => exact .inr (.inl ⟨_, rfl, ⟨_, sqT_mono S.same h1⟩, q _ _ _ (irp_at walk_tup h2 fun B' H m s S _ => sqT_mono (s.trans S.same) h1) h⟩)
  | lst h1 h2 => exact .inl ⟨_, rfl, ⟨_, .inl (.inl (S.same _ _ h1))⟩, q _ _ _ (irp_at walk_list h2 fun B' H m s S _ => .inl (.inl (S.same _ _ (s _ _ h1)))) h⟩
  | str y => exact .inr (.inr ⟨y, rfl, q _ _ _ irp_str h⟩)
  | ref a =>
    simp only [asI] at h
    cases e : m a with
    | none => rw [e] at h; exact h.elim
    | some mo => cases mo with
      | lst xs =>
        rw [e] at h
        obtain ⟨vs, hv, pv⟩ := S.list e
        refine .inl ⟨a, rfl, ⟨_, .inl (.inl hv)⟩, q _ _ _ ?_ h⟩
        have hl : xs.length = vs.length := pv.length.symm
        refine ⟨fun i B' H m hi s S g => ?_, fun B' H m s S g => ?_, fun i B' H m x H' hi s S g y => ?_⟩
        · obtain ⟨ws, hw, pw⟩ := S.list g
          exact (walk_list (K := K) (xs := ws)).goes i H (by rw [pw.length]; exact hi) (.inl (.inl hw))
        · obtain ⟨ws, hw, pw⟩ := S.list g
          rw [← pw.length]
          exact (walk_list (K := K) (xs := ws)).stops H (.inl (.inl hw))
        · obtain ⟨ws, hw, pw⟩ := S.list g
          obtain ⟨e1, ex⟩ := (walk_list (K := K) (xs := ws)).yields i H x H' (by rw [pw.length]; exact hi) (.inl (.inl hw)) y
          subst e1
          obtain ⟨v', g1, g2⟩ := pw.get (List.getElem?_eq_getElem hi)
          rw [ex] at g1
          cases g1
          exact ⟨B', _, List.getElem?_eq_getElem hi, Same.refl _, S, Frm.refl, g2⟩
      | _ => rw [e] at h; exact h.elim
  | _ => exact h.elim
theorem pid_seq {tg : Expr} (ha : PE X a (up X.K W fa)) : PI X tg a (upI X.K W (iSeq fa)) := PI.imp (pi_any ha) fun σ H R ⟨B, r, m, R', x, er, S, h, t, tx⟩ =>
  ⟨B, r, m, _, x, er, S, h, fun B1 d m1 u H1 s1 S1 f1 p1 q1 => asI_up S1 p1 q1 fun J ds G ir k => t B1 ds G m1 H1 J s1 S1 f1 ir k, tx⟩
theorem irp_range {K : PySem.W.Frag} {B : Hp} {i j : Int} : IRp K B (Itr i (j - i).toNat) (rangeD i j) (fun _ => True) := by
  have w := walk_range (lo := i) (n := (j - i).toNat)
  have e : (rangeD i j).length = (j - i).toNat := by simp [rangeD]
  refine ⟨fun k B' H m hi s S g => w.goes k H (by rw [← e]; exact hi) trivial, fun B' H m s S g => by rw [e]; exact w.stops H trivial, fun k B' H m x H' hi s S g y => ?_⟩
  obtain ⟨e1, ex⟩ := w.yields k H x H' (by rw [← e]; exact hi) trivial y
  subst e1
  subst ex
  refine ⟨B', _, ?_, Same.refl _, S, Frm.refl, .int _⟩
  unfold rangeD
  rw [List.getElem?_map, List.getElem?_range (by rw [← e]; exact hi)]; rfl
theorem pid_range1 {tg : Expr} (hg : Gl X "range") (hm : X.mg "range" = none) (ha : PE X a (up X.K W fa)) (hs : starEach [a] X.env = [(false, eval a X.env)] := by rfl) : PI X tg (.Call (.Name "range" p) [a] [] pos) (upI X.K W (iRange1 fa)) := PI.imp (pi_range1 hg hm (pa_cons ha pa_nil hs) hs) fun σ H R ⟨B, r, m, R', x, er, S, h, t, tx⟩ => by
  refine ⟨B, r, m, _, x, er, S, h, fun B1 d m1 u H1 s1 S1 f1 p1 q1 => ?_, tx⟩
  cases p1 with
  | int j =>
    refine ⟨j, rfl, q1.1, q1.2.1, ?_⟩
    have ir := irp_range (K := X.K) (B := B1) (i := 0) (j := j)
    rw [Int.sub_zero] at ir
    exact t B1 _ _ m1 H1 _ s1 S1 f1 ir q1.2.2
  | _ => exact q1.elim
theorem pid_range2 {tg : Expr} (hg : Gl X "range") (hm : X.mg "range" = none) (ha : PE X a (up X.K W fa)) (hb : PE X b (up X.K W fb)) (hs : starEach [a, b] X.env = [(false, eval a X.env), (false, eval b X.env)] := by rfl) (hs2 : starEach [b] X.env = [(false, eval b X.env)] := by rfl) :
    PI X tg (.Call (.Name "range" p) [a, b] [] pos) (upI X.K W (iRange2 fa fb)) := PI.imp (pi_range2 hg hm (pa_cons ha (pa_cons hb pa_nil hs2) (by rw [hs, hs2])) hs hs2) fun σ H R ⟨B, r, m, R', x, er, S, h, t, tx⟩ => by
  refine ⟨B, r, m, _, x, er, S, h, fun B1 d m1 u H1 s1 S1 f1 p1 q1 => ?_, tx⟩
  refine ⟨B1, r, m1, _, x, er.mono s1, S1, q1, fun B2 e m2 v H2 s2 S2 f2 p2 q2 => ?_, tx.step s1 f1⟩
  cases p1 with
  | int i => cases p2 with
    | int j => exact ⟨i, j, rfl, q2.1, t B2 _ _ m2 H2 _ (s1.trans s2) S2 (f1.trans f2) irp_range q2.2⟩
    | _ => exact q2.elim
  | _ => exfalso; cases p2 <;> exact q2
theorem enumD_get : ∀ (n : Nat) (ds : List D) (i : Nat), (enumD n ds)[i]? = (ds[i]?).map fun d => D.tup [.int ((n + i : Nat) : Int), d]
  | n, [], i => by simp [enumD]
  | n, d :: ds, 0 => by simp [enumD]
  | n, d :: ds, i + 1 => by
    have h := enumD_get (n + 1) ds i
    simp only [enumD, List.getElem?_cons_succ, h]
    rw [show n + 1 + i = n + (i + 1) by omega]
theorem enumD_len : ∀ (n : Nat) (ds : List D), (enumD n ds).length = ds.length
  | n, [] => rfl
  | n, d :: ds => by simp [enumD, enumD_len (n + 1) ds]
theorem pair_yield {K : PySem.W.Frag} {B' H H' : Hp} {m : Store} {x y : V} {d e : D} {T : Addr} (S : SRp K B' H m) (nT : H T = none) (eH : H' = upd H T (.tup [x, y])) (p : Dp K B' x d) (q : Dp K B' y e) :
    ∃ B2, Same B' B2 ∧ SRp K B2 H' m ∧ Frm B' H m B2 H' m ∧ Dp K B2 (.ref T) (.tup [d, e]) := by
  subst eH
  obtain ⟨s1, S1, f1⟩ := S.frz (ho := .tup [x, y]) nT
  exact ⟨_, s1, S1, f1, .tup (.inl (.inl upd_same)) (.cons (p.mono s1) (.cons (q.mono s1) .nil))⟩
theorem irp_enum {K : PySem.W.Frag} {B : Hp} {a : Addr} {ds : List D} {G : Store → Prop} (hG : ∀ B' H m, Same B B' → SRp K B' H m → G m → ∃ ws, SqL K H a ws ∧ DpAll K B' ws ds) : IRp K B (Ite K a) (enumD 0 ds) G := by
  refine ⟨fun i B' H m hi s S g => ?_, fun B' H m s S g => ?_, fun i B' H m x H' hi s S g y => ?_⟩
  · obtain ⟨ws, hw, pw⟩ := hG B' H m s S g
    rw [enumD_len] at hi
    exact (walk_enum (K := K) (xs := ws)).goes i H (by rw [pw.length]; exact hi) hw
  · obtain ⟨ws, hw, pw⟩ := hG B' H m s S g
    rw [enumD_len, ← pw.length]
    exact (walk_enum (K := K) (xs := ws)).stops H hw
  · obtain ⟨ws, hw, pw⟩ := hG B' H m s S g
    rw [enumD_len] at hi
    obtain ⟨T, x1, x2, rfl, nT, eH, g1, g2⟩ := (walk_enum (K := K) (xs := ws)).yields i H x H' (by rw [pw.length]; exact hi) hw y
    cases g1
    obtain ⟨v', z1, z2⟩ := pw.get (List.getElem?_eq_getElem hi)
    have g2 : ws[i]? = some x2 := g2
    rw [g2] at z1
    cases z1
    obtain ⟨B2, q1, q2, q3, q4⟩ := pair_yield S nT eH (.int (i : Nat)) z2
    exact ⟨B2, _, by rw [enumD_get, List.getElem?_eq_getElem hi]; simp, q1, q2, q3, q4⟩
def iEnumL (a : WE) : WI := fun r m K x => a r m (fun u m1 => match u with
  | .lst xs => K (enumD 0 xs) (fun _ => True) m1
  | .ref a => ok (asL m1 (.ref a)) fun xs => K (enumD 0 xs) (fun m' => m' a = some (.lst xs)) m1
  | _ => False) x
theorem pid_enum {elts : List Expr} {kk : Nat} {tpos : Pos} (hg : Gl X "enumerate") (hm : X.mg "enumerate" = none) (ha : PE X a (up X.K W fa)) (hs : starEach [a] X.env = [(false, eval a X.env)] := by rfl) : PI X (.Tuple elts kk tpos) (.Call (.Name "enumerate" p) [a] [] pos) (upI X.K W (iEnumL fa)) := PI.imp (pi_enum hg hm (pa_cons ha pa_nil hs) hs) fun σ H R ⟨B, r, m, R', x, er, S, h, t, tx⟩ => by
  refine ⟨B, r, m, _, x, er, S, h, fun B1 d m1 u H1 s1 S1 f1 p1 q1 => ?_, tx⟩
  cases p1 with
  | lst h1 h2 => exact ⟨_, _, rfl, .inl (.inl (S1.same _ _ h1)), t B1 _ _ m1 H1 _ s1 S1 f1 (irp_enum fun B' H m s S _ => ⟨_, .inl (.inl (S.same _ _ (s _ _ h1))), h2.mono s⟩) q1⟩
  | ref a0 =>
    obtain ⟨xs, e1, q⟩ := ok_iff.mp q1
    obtain ⟨a2, vs, ea, ha, pa⟩ := seqL S1 (.ref a0) e1
    cases ea
    refine ⟨_, _, rfl, .inl (.inl ha), t B1 _ _ m1 H1 _ s1 S1 f1 (irp_enum fun B' H m s S g => ?_) q⟩
    obtain ⟨ws, hw, pw⟩ := S.list g
    exact ⟨ws, .inl (.inl hw), pw⟩
  | _ => exact q1.elim
theorem zipD_get : ∀ (xs ys : List D) (i : Nat) (x y : D), xs[i]? = some x → ys[i]? = some y → (zipD xs ys)[i]? = some (.tup [x, y])
  | [], _, _, _, _, h, _ => by simp at h
  | _ :: _, [], _, _, _, _, h => by simp at h
  | x :: xs, y :: ys, 0, _, _, h1, h2 => by simp at h1 h2; subst h1; subst h2; simp [zipD]
  | x :: xs, y :: ys, i + 1, _, _, h1, h2 => by simpa [zipD] using zipD_get xs ys i _ _ (by simpa using h1) (by simpa using h2)
theorem zipD_len : ∀ (xs ys : List D), (zipD xs ys).length = min xs.length ys.length
  | [], ys => by simp [zipD]
  | _ :: _, [] => by simp [zipD]
  | x :: xs, y :: ys => by simp [zipD, zipD_len xs ys]
theorem irp_zip {K : PySem.W.Frag} {B : Hp} {J : It} {vs ws : List V} {ds es : List D} {P : Hp → Prop} (w : Walk J (min vs.length ws.length) P (YPair (fun i => vs[i]?) (fun i => ws[i]?))) (hp : DpAll K B vs ds) (hq : DpAll K B ws es) (hG : ∀ B' H m, Same B B' → SRp K B' H m → P H) : IRp K B J (zipD ds es) (fun _ => True) := by
  have el : (zipD ds es).length = min vs.length ws.length := by rw [zipD_len, hp.length, hq.length]
  refine ⟨fun i B' H m hi s S g => w.goes i H (by rw [← el]; exact hi) (hG B' H m s S), fun B' H m s S g => by rw [el]; exact w.stops H (hG B' H m s S), fun i B' H m x H' hi s S g y => ?_⟩
  obtain ⟨T, x1, x2, rfl, nT, eH, g1, g2⟩ := w.yields i H x H' (by rw [← el]; exact hi) (hG B' H m s S) y
  have hi' : i < min ds.length es.length := by rw [zipD_len] at hi; exact hi
  obtain ⟨v1, z1, z2⟩ := hp.get (List.getElem?_eq_getElem (show i < ds.length by omega))
  obtain ⟨v2, y1, y2⟩ := hq.get (List.getElem?_eq_getElem (show i < es.length by omega))
  have g1 : vs[i]? = some x1 := g1
  have g2 : ws[i]? = some x2 := g2
  rw [g1] at z1; cases z1
  rw [g2] at y1; cases y1
  obtain ⟨B2, q1, q2, q3, q4⟩ := pair_yield S nT eH (z2.mono s) (y2.mono s)
  exact ⟨B2, _, zipD_get _ _ i _ _ (List.getElem?_eq_getElem (by omega)) (List.getElem?_eq_getElem (by omega)), q1, q2, q3, q4⟩
theorem walk_zipT {K : PySem.W.Frag} {a b : Addr} {xs ys : List V} : Walk (RZ.ItzT K a b) (min xs.length ys.length) (fun H => SqT K H a xs ∧ SqT K H b ys) (YPair (fun i => xs[i]?) (fun i => ys[i]?)) := by
  refine ⟨fun i _ hi q => ?_, fun _ q => ⟨xs, ys, q.1, q.2, by omega⟩, fun i H v H' _ q y => ?_⟩
  · have h1 : i < xs.length := by omega
    have h2 : i < ys.length := by omega
    exact ⟨xs, ys, xs[i], ys[i], q.1, q.2, by simp [h1], by simp [h2]⟩
  · obtain ⟨T, x, z, h1, h2, h3, h4, h5⟩ := y
    exact ⟨T, x, z, h1, h2, h3, h4 xs q.1, h5 ys q.2⟩
def iZipQ (a b : WE) : WI := fun r m K x => a r m (fun u m1 => b r m1 (fun v m2 => match u, v with
  | .tup xs, .tup ys => K (zipD xs ys) (fun _ => True) m2
  | .lst xs, .lst ys => K (zipD xs ys) (fun _ => True) m2
  | _, _ => False) x) x
theorem pid_zip {elts : List Expr} {kk : Nat} {tpos : Pos} (hg : Gl X "zip") (hm : X.mg "zip" = none) (ha : PE X a (up X.K W fa)) (hb : PE X b (up X.K W fb)) (hs : starEach [a, b] X.env = (false, eval a X.env) :: starEach [b] X.env := by rfl) (hs2 : starEach [b] X.env = [(false, eval b X.env)] := by rfl) (hpl : (backTo pos (starEach [b] X.env)).any (·.1) = false := by rfl) :
    PI X (.Tuple elts kk tpos) (.Call (.Name "zip" p) [a, b] [] pos) (upI X.K W (iZipQ fa fb)) := PI.imp (RZ.pi_zipA hg hm (pa_cons ha (pa_cons hb pa_nil hs2) hs) hs hpl) fun σ H R ⟨B, r, m, R', x, er, S, h, t, tx⟩ => by
  refine ⟨B, r, m, _, x, er, S, h, fun B1 d m1 u H1 s1 S1 f1 p1 q1 => ?_, tx⟩
  refine ⟨B1, r, m1, _, x, er.mono s1, S1, q1, fun B2 e m2 v H2 s2 S2 f2 p2 q2 => ?_, tx.step s1 f1⟩
  have p1 := p1.mono s2
  cases p1 with
  | tup h1 h2 => cases p2 with
    | tup h3 h4 => exact ⟨_, _, _, _, rfl, .inr ⟨sqT_mono S2.same h1, sqT_mono S2.same h3, t B2 _ _ m2 H2 _ (s1.trans s2) S2 (f1.trans f2) (irp_zip walk_zipT h2 h4 fun B' H m s S => ⟨sqT_mono (s.trans S.same) h1, sqT_mono (s.trans S.same) h3⟩) q2⟩⟩
    | _ => exact q2.elim
  | lst h1 h2 => cases p2 with
    | lst h3 h4 => exact ⟨_, _, _, _, rfl, .inl ⟨.inl (.inl (S2.same _ _ h1)), .inl (.inl (S2.same _ _ h3)), t B2 _ _ m2 H2 _ (s1.trans s2) S2 (f1.trans f2) (irp_zip (walk_zip rfl) h2 h4 fun B' H m s S => ⟨.inl (.inl (S.same _ _ (s _ _ h1))), .inl (.inl (S.same _ _ (s _ _ h3)))⟩) q2⟩⟩
    | _ => exact q2.elim
  | _ => exfalso; cases p2 <;> exact q2
theorem wipe_name {i : Nat} {vs : List Nat} (hi : i ∈ vs) (σ : L2.St) (x : Option V) : wipe ((wipe σ vs).set i x) vs = wipe σ vs := by
  have idem : ∀ (us : List Nat) (τ : L2.St), (∀ j ∈ us, τ[j]? = some none ∨ τ[j]? = none) → wipe τ us = τ := by
    intro us
    induction us with
    | nil => intro τ _; rfl
    | cons u us ih =>
      intro τ h
      unfold wipe
      rw [ih τ fun j hj => h j (List.mem_cons_of_mem _ hj)]
      apply List.ext_getElem?
      intro n
      rw [List.getElem?_set]
      split
      · rename_i e
        subst e
        rcases h u List.mem_cons_self with z | z
        · rw [z]; simp [(List.getElem?_eq_some_iff.mp z).1]
        · rw [z]; simp [List.getElem?_eq_none_iff.mp z]
      · rfl
  have at_ : ∀ (us : List Nat) (τ : L2.St) (j : Nat), (wipe τ us)[j]? = if j ∈ us then (if j < τ.length then some none else none) else τ[j]? := by
    intro us
    induction us with
    | nil => intro τ j; simp [wipe]
    | cons u us ih =>
      intro τ j
      unfold wipe
      rw [List.getElem?_set, ih, wipe_length]
      by_cases e : u = j
      · subst e
        rw [if_pos rfl, if_pos List.mem_cons_self]
      · rw [if_neg e]
        have : (j ∈ u :: us) ↔ (j ∈ us) := by simp [Ne.symm e]
        by_cases hj : j ∈ us
        · rw [if_pos hj, if_pos (this.mpr hj)]
        · rw [if_neg hj, if_neg (fun z => hj (this.mp z))]
  apply List.ext_getElem?
  intro n
  rw [at_, at_, List.length_set, wipe_length]
  by_cases hn : n ∈ vs
  · rw [if_pos hn, if_pos hn]
  · rw [if_neg hn, if_neg hn, List.getElem?_set_ne (show i ≠ n from fun z => hn (by rw [← z]; exact hi)), at_, if_neg hn]
theorem lcw_name {i : Nat} {vs : List Nat} (hi : i ∈ vs) : ∀ x σ H Q, gName i x (wipe σ vs) H Q → gName i x (wipe σ vs) H fun σ2 H2 => wipe σ2 vs = wipe σ vs ∧ Q σ2 H2 := fun x σ H Q h => ⟨wipe_name hi σ _, h⟩
theorem wipe_names {vs : List Nat} {Q : L2.St → Hp → Prop} {H : Hp} : ∀ (is : List Nat) (xs : List V) (σ τ : L2.St), (∀ i ∈ is, i ∈ vs) → wipe τ vs = wipe σ vs → gNames is xs τ H Q → gNames is xs τ H fun σ2 H2 => wipe σ2 vs = wipe σ vs ∧ Q σ2 H2
  | [], xs, σ, τ, _, e, h => ⟨h.1, e, h.2⟩
  | i :: is, xs, σ, τ, hv, e, h => by
    obtain ⟨v, r, ex, h⟩ := h
    refine ⟨v, r, ex, wipe_names is r σ _ (fun j hj => hv j (List.mem_cons_of_mem _ hj)) ?_ h⟩
    have hi := hv i List.mem_cons_self
    have z : ∀ (us : List Nat) (τ : L2.St), i ∈ us → wipe (τ.set i (some v)) us = wipe τ us := by
      intro us
      induction us with
      | nil => intro τ h; cases h
      | cons u us ih =>
        intro τ h
        unfold wipe
        by_cases hu : i ∈ us
        · rw [ih τ hu]
        · have eu : i = u := by rcases List.mem_cons.mp h with z | z; exact z; exact absurd z hu
          subst eu
          have c : ∀ (ws : List Nat) (τ : L2.St), i ∉ ws → wipe (τ.set i (some v)) ws = (wipe τ ws).set i (some v) := by
            intro ws
            induction ws with
            | nil => intro τ _; rfl
            | cons w ws ih2 =>
              intro τ hw
              unfold wipe
              rw [ih2 τ (fun z => hw (List.mem_cons_of_mem _ z)), List.set_comm _ _ (show i ≠ w from fun z => hw (by rw [z]; exact List.mem_cons_self))]
          rw [c us τ hu, List.set_set]
    rw [z vs τ hi, e]
theorem lcw_tup {K : PySem.W.Frag} {is vs : List Nat} (hi : ∀ i ∈ is, i ∈ vs) : ∀ x σ H Q, gTup K is.length (gNames is) x (wipe σ vs) H Q → gTup K is.length (gNames is) x (wipe σ vs) H fun σ2 H2 => wipe σ2 vs = wipe σ vs ∧ Q σ2 H2 := fun x σ H Q ⟨a, xs, e, h1, h2, h⟩ => ⟨a, xs, e, h1, h2, wipe_names is xs σ _ hi (by
  cases vs with
  | nil => rfl
  | cons v vs =>
    have at_ : ∀ (us : List Nat) (τ : L2.St) (j : Nat), (wipe τ us)[j]? = if j ∈ us then (if j < τ.length then some none else none) else τ[j]? := by
      intro us
      induction us with
      | nil => intro τ j; simp [wipe]
      | cons u us ih =>
        intro τ j
        unfold wipe
        rw [List.getElem?_set, ih, wipe_length]
        by_cases e : u = j
        · subst e
          rw [if_pos rfl, if_pos List.mem_cons_self]
        · rw [if_neg e]
          have : (j ∈ u :: us) ↔ (j ∈ us) := by simp [Ne.symm e]
          by_cases hj : j ∈ us
          · rw [if_pos hj, if_pos (this.mpr hj)]
          · rw [if_neg hj, if_neg (fun z => hj (this.mp z))]
    apply List.ext_getElem?
    intro n
    rw [at_, at_, wipe_length]
    by_cases hn : n ∈ v :: vs
    · rw [if_pos hn, if_pos hn]
    · rw [if_neg hn, if_neg hn]) h⟩
section
variable {elt tg iter : Expr} {ifs : List Expr} {scope : Scope} {own : List (Str × Nat)} {fi : WI} {g : WG} {tG : TG} {t : WT} {e' : WE}
theorem ptsd_nil : PTs X [] (upT X.K W wYes) := ⟨fun pins s σ H Q I h => pts_nil.run pins s σ H Q I (by obtain ⟨B, r, m, R, x, er, S, h, t, _⟩ := h; exact t B _ m H (Same.refl B) S Frm.refl h)⟩
theorem pd_lc {bb : Bool} (hc : X.calm = true) (hN : X.N.Nodup) (ug : upG X.K g tG) (hw : ∀ x σ H Q, tG x (wipe σ (own.map (·.2))) H Q → tG x (wipe σ (own.map (·.2))) H fun σ2 H2 => wipe σ2 (own.map (·.2)) = wipe σ (own.map (·.2)) ∧ Q σ2 H2) (hi : PI X tg iter (upI X.K W fi)) (ok : BlkOk X.N X.env.scope scope own)
    (hg : ∀ (s : Shared) (H : Hp) (C : Addr) (cl : List (Str × Addr)) (fp : List Addr), PG (X.blk s H scope (compEnvC scope cl C X.env) fp) tg tG) (ht : ∀ (s : Shared) (H : Hp) (C : Addr) (cl : List (Str × Addr)) (fp : List Addr), PTs (X.blk s H scope (compEnvC scope cl C X.env) fp) ifs (upT X.K W0 t))
    (he : ∀ (s : Shared) (H : Hp) (C : Addr) (cl : List (Str × Addr)) (fp : List Addr), PE (X.blk s H scope (compEnvC scope cl C X.env) fp) elt (up X.K W0 e')) (hs : ∀ x, foldedSetIterable iter X.env x = pure x := by intro _; rfl) :
    PE X (.ListComp elt [⟨tg, iter, ifs, 0⟩] scope pos) (up X.K W (wLc bb (own.map (·.2)) fi g t e')) := PE.imp (pe_lc hc hN hi ok hg ht he hs) fun σ H Q h => lc_up ug hw h
theorem psd_setLc {bb : Bool} {i : Nat} {y : Str} {py spos : Pos} (hc : X.calm = true) (hN : X.N.Nodup) (hy : X.N[i]? = some y) (hyl : X.env.scope.names.lookup y = some .local)
    (hsw : swapsWith (.ListComp elt [⟨tg, iter, ifs, 0⟩] scope pos) (some (.Name y py)) spos.line X.env = pure true) (ug : upG X.K g tG) (hw : ∀ x σ H Q, tG x (wipe σ (own.map (·.2))) H Q → tG x (wipe σ (own.map (·.2))) H fun σ2 H2 => wipe σ2 (own.map (·.2)) = wipe σ (own.map (·.2)) ∧ Q σ2 H2) (hi : PI X tg iter (upI X.K W fi)) (ok : BlkOk X.N X.env.scope scope own)
    (hg : ∀ (s : Shared) (H : Hp) (C : Addr) (cl : List (Str × Addr)) (fp : List Addr), PG (X.blk s H scope (compEnvC scope cl C X.env) fp) tg tG) (ht : ∀ (s : Shared) (H : Hp) (C : Addr) (cl : List (Str × Addr)) (fp : List Addr), PTs (X.blk s H scope (compEnvC scope cl C X.env) fp) ifs (upT X.K W0 t))
    (he : ∀ (s : Shared) (H : Hp) (C : Addr) (cl : List (Str × Addr)) (fp : List Addr), PE (X.blk s H scope (compEnvC scope cl C X.env) fp) elt (up X.K W0 e')) (hs : ∀ x, foldedSetIterable iter X.env x = pure x := by intro _; rfl) :
    PS X (.Assign [.Name y py] (.ListComp elt [⟨tg, iter, ifs, 0⟩] scope pos) spos) (upS X.K W (wSet i (wLc bb (own.map (·.2)) fi g t e'))) := PS.imp (ps_setLc hc hN hy hyl hsw hi ok hg ht he hs) fun E σ H ⟨B, r, m, k, er, S, h, t⟩ =>
  lc_up ug hw ⟨B, r, m, _, _, er, S, h, fun B' d m' v H' s1 S1 f1 p q => t.nx B' _ _ m' H' s1 S1 f1 ((er.mono s1).set i p) q, t.x er⟩
end
end
end DL
end
section
set_option maxHeartbeats 0
namespace DL
open PySem
def tyN (m : Store) : D → Option String
  | .non => some "NoneType"
  | .bl _ => some "bool"
  | .int _ => some "int"
  | .str _ => some "str"
  | .tup _ => some "tuple"
  | .lst _ => some "list"
  | .ref a => match m a with
    | some (.lst _) => some "list"
    | some (.dct _) => some "dict"
    | _ => none
  | _ => none
def isiN (a b : String) : Bool := a == b || (a == "bool" && b == "int")
def wLen : WL := fun us m R => match us with
  | [.str s] => s.length ≤ LIM ∧ R (.int (s.length : Nat)) m
  | [d] => ok (asQ m d) fun xs => R (.int (xs.length : Nat)) m
  | _ => False
def wIsi : WL := fun us m R => match us with
  | [d, .ty T] => T ∈ ["int", "bool", "str", "tuple", "list"] ∧ ok (tyN m d) fun n => R (.bl (isiN n T)) m
  | _ => False
def wAll : WL := fun us m R => match us with
  | [d] => ∃ bs : List Bool, asL m d = some (bs.map .bl) ∧ R (.bl (bs.all id)) m
  | _ => False
def wAny : WL := fun us m R => match us with
  | [d] => ∃ bs : List Bool, asL m d = some (bs.map .bl) ∧ R (.bl (bs.any id)) m
  | _ => False
def wTuple : WL := fun us m R => match us with
  | [d] => ok (asQ m d) fun xs => R (.tup xs) m
  | _ => False
def wList (b : Bool) : WL := fun us m R => match us with
  | [d] => ok (asQ m d) fun xs => wNw b xs m R
  | _ => False
def wInt : WL := fun us m R => match us with
  | [.int i] => R (.int i) m
  | [.bl b] => R (.int (if b then 1 else 0)) m
  | _ => False
def wAbs : WL := fun us m R => match us with
  | [.int i] => R (.int (if i < 0 then -i else i)) m
  | _ => False
def wMax2 : WL := fun us m R => match us with
  | [.int i, .int j] => R (.int (if j > i then j else i)) m
  | _ => False
def wMin2 : WL := fun us m R => match us with
  | [.int i, .int j] => R (.int (if j < i then j else i)) m
  | _ => False
def wMinL : WL := fun us m R => match us with
  | [d] => ∃ ns : List Int, asL m d = some (ns.map .int) ∧ 0 < ns.length ∧ ∀ z, z ∈ ns → (∀ y, y ∈ ns → z ≤ y) → R (.int z) m
  | _ => False
def wMaxL : WL := fun us m R => match us with
  | [d] => ∃ ns : List Int, asL m d = some (ns.map .int) ∧ 0 < ns.length ∧ ∀ z, z ∈ ns → (∀ y, y ∈ ns → y ≤ z) → R (.int z) m
  | _ => False
def wSum : WL := fun us m R => match us with
  | [d] => ∃ ns : List Int, asL m d = some (ns.map .int) ∧ R (.int ns.sum) m
  | _ => False
def wSortI (b : Bool) : WL := fun us m R => match us with
  | [d] => ∃ ns : List Int, asL m d = some (ns.map .int) ∧ ∀ ns' : List Int, ns'.Perm ns → ns'.Pairwise (· ≤ ·) → wNw b (ns'.map .int) m R
  | _ => False
def tyM (T : String) (m : Store) (d : D) : Prop := match d with
  | .str _ => T = "str"
  | .lst _ => T = "list"
  | .ref a => match m a with
    | some (.lst _) => T = "list"
    | some (.dct _) => T = "dict"
    | _ => False
  | _ => False
abbrev WM := D → List D → Store → KD → Prop
def wMt (T : String) (w : WM) (o : WE) (a : WA) : WE := fun r m R x => o r m (fun u m1 => tyM T m1 u ∧ a r m1 (fun us m2 => w u us m2 R) x) x
def wAppend : WM := fun d us m R => match d, us with
  | .ref a, [y] => ∃ xs, m a = some (.lst xs) ∧ xs.length < LIM ∧ R .non (sup m a (.lst (xs ++ [y])))
  | _, _ => False
def wExtend : WM := fun d us m R => match d, us with
  | .ref a, [y] => ∃ xs ys, m a = some (.lst xs) ∧ asL m y = some ys ∧ xs.length + ys.length ≤ LIM ∧ R .non (sup m a (.lst (xs ++ ys)))
  | _, _ => False
def wPopAt : WM := fun d us m R => match d, us with
  | .ref a, [.int i] => ∃ xs, m a = some (.lst xs) ∧ 0 ≤ i ∧ i < 2 ^ 62 ∧ ok (xs[i.toNat]?) fun y => R y (sup m a (.lst (xs.eraseIdx i.toNat)))
  | _, _ => False
def wReverse : WM := fun d us m R => match d, us with
  | .ref a, [] => ∃ xs, m a = some (.lst xs) ∧ R .non (sup m a (.lst xs.reverse))
  | _, _ => False
def wIndex : WM := fun d us m R => match us with
  | [y] => ∃ xs j z, asL m d = some xs ∧ flatD y = true ∧ xs.all flatD = true ∧ xs[j]? = some z ∧ eqD z y = true ∧ (∀ k z', k < j → xs[k]? = some z' → eqD z' y = false) ∧ R (.int (j : Nat)) m
  | _ => False
def wRemI : WM := fun d us m R => match d, us with
  | .ref a, [.int k] => ∃ (ns : List Int) (j : Nat), m a = some (.lst (ns.map .int)) ∧ ns[j]? = some k ∧ (∀ i : Nat, i < j → ns[i]? ≠ some k) ∧ R .non (sup m a (.lst ((ns.eraseIdx j).map .int)))
  | _, _ => False
def upC (c : Nat) : Nat := if 97 ≤ c ∧ c ≤ 122 then c - 32 else c
def loC (c : Nat) : Nat := if 65 ≤ c ∧ c ≤ 90 then c + 32 else c
def wUpper : WM := fun d us m R => match d, us with
  | .str s, [] => ∃ c, s = ⟨#[c]⟩ ∧ c < 128 ∧ R (.str ⟨#[upC c]⟩) m
  | _, _ => False
def wLower : WM := fun d us m R => match d, us with
  | .str s, [] => ∃ c, s = ⟨#[c]⟩ ∧ c < 128 ∧ R (.str ⟨#[loC c]⟩) m
  | _, _ => False
def wSIndex : WM := fun d us m R => match d, us with
  | .str s, [.str t] => ∃ c i, t = ⟨#[c]⟩ ∧ s.cps.toList[i]? = some c ∧ (∀ j, j < i → s.cps.toList[j]? ≠ some c) ∧ R (.int (i : Nat)) m
  | _, _ => False
def wJoin : WM := fun d us m R => match d, us with
  | .str s, [y] => ∃ ys : List Str, asQ m y = some (ys.map .str) ∧ (ys.map (·.length)).sum + ys.length * s.length ≤ LIM ∧ R (.str (Str.join s ys)) m
  | _, _ => False
def keyD : D → Option DKey
  | .int i => some (.inl i)
  | .str s => some (.inr s)
  | _ => none
def lookK : List (DKey × D) → DKey → Option D
  | [], _ => none
  | (g, d) :: r, k => if g = k then some d else lookK r k
def putKD (k : DKey) (d : D) (kvs : List (DKey × D)) : List (DKey × D) :=
  if (kvs.any fun kv => decide (kv.1 = k)) = true then kvs.map (fun kv => if kv.1 = k then (kv.1, d) else kv) else kvs ++ [(k, d)]
def mergeD (kvs more : List (DKey × D)) : List (DKey × D) := more.foldl (fun acc kv => putKD kv.1 kv.2 acc) kvs
def wPairs : List (WE × WE) → Env → Store → (List (D × D) → Store → Prop) → XD → Prop
  | [], _, m, K, _ => K [] m
  | (a, b) :: t, r, m, K, x => a r m (fun u m1 => b r m1 (fun v m2 => wPairs t r m2 (fun ps m3 => K ((u, v) :: ps) m3) x) x) x
def keysD : List (D × D) → Option (List (DKey × D))
  | [] => some []
  | (u, v) :: t => match keyD u, keysD t with | some k, some ks => some ((k, v) :: ks) | _, _ => none
def wDisp (ps : List (WE × WE)) : WE := fun r m R x => wPairs ps r m (fun us m1 => us.length ≤ 15 ∧ ok (keysD us) fun kvs => ∀ a, m1 a = none → R (.ref a) (sup m1 a (.dct (mergeD [] kvs)))) x
def wDPut (d k v : WE) : WS := fun r m c => v r m (fun y m1 => d r m1 (fun u m2 => k r m2 (fun q m3 => match u with
  | .ref a => ∃ kvs, m3 a = some (.dct kvs) ∧ kvs.length < LIM ∧ ok (keyD q) fun q => c.nx r (sup m3 a (.dct (putKD q y kvs)))
  | _ => False) c.ex) c.ex) c.ex
def wDGet2 (d k z : WE) : WE := fun r m R x => d r m (fun u m1 => (match u with | .ref a => ∃ kvs, m1 a = some (.dct kvs) | _ => False) ∧ k r m1 (fun q m2 => z r m2 (fun y m3 => match u with
  | .ref a => ∃ kvs, m3 a = some (.dct kvs) ∧ ok (keyD q) fun q => R ((lookK kvs q).getD y) m3
  | _ => False) x) x) x
def wUpdate : WM := fun d us m R => match d, us with
  | .ref a, [.ref b] => ∃ kvs more, a ≠ b ∧ m a = some (.dct kvs) ∧ m b = some (.dct more) ∧ kvs.length + more.length ≤ LIM ∧ R .non (sup m a (.dct (mergeD kvs more)))
  | _, _ => False
def wCount : WM := fun d us m R => match us with
  | [y] => ∃ xs, asL m d = some xs ∧ flatD y = true ∧ xs.all flatD = true ∧ R (.int ((xs.countP fun z => eqD z y : Nat) : Int)) m
  | _ => False
def wDGet : W2 := fun d k m R => match d with
  | .ref a => ∃ kvs, m a = some (.dct kvs) ∧ ok (keyD k) fun q => ok (lookK kvs q) fun v => R v m
  | _ => False
def wFgt (a : WE) : WE := fun r m R x => a r m (fun u m1 => ∃ m2, Sub m2 m1 ∧ R u m2) x
def wDispGet (ps : List (WE × WE)) (k : WE) : WE := fun r m R x => wPairs ps r m (fun us m1 => us.length ≤ 15 ∧ ok (keysD us) fun kvs => k r m1 (fun q m2 => ok (keyD q) fun q => ok (lookK (mergeD [] kvs) q) fun v => R v m2) x) x
def wDispGet2 (ps : List (WE × WE)) (k z : WE) : WE := fun r m R x => wPairs ps r m (fun us m1 => us.length ≤ 15 ∧ ok (keysD us) fun kvs => k r m1 (fun q m2 => z r m2 (fun y m3 => ok (keyD q) fun q => R ((lookK (mergeD [] kvs) q).getD y) m3) x) x) x
end DL
end
section
set_option maxHeartbeats 0
namespace DL
open PySem PySem.Spec PyProof.Rows L2
section
variable {X : Cx} {W : WX} {a b c o e : Expr} {fa fb fc : WE} {pos p apos : Pos} {es : List Expr} {ga : WA} {K : PySem.W.Frag} {B H : Hp} {m : Store}
theorem len_ : CallD X (.builtin "len") wLen := by
  refine ⟨_, call_len, fun B us ds p H m R Q S h t => ?_⟩
  cases p with
  | nil => exact h.elim
  | cons p ps => cases ps with
    | cons _ _ => exfalso; cases p <;> exact h
    | nil =>
      rename_i v d
      have seq : (ok (asQ m d) fun xs => R (.int (xs.length : Nat)) m) → ∃ x n, [v] = [x] ∧ LenV X.K x H n ∧ Q (.int n) H := fun h => by
        obtain ⟨xs, h1, h2⟩ := ok_iff.mp h
        obtain ⟨a, vs, rfl, hq, pa⟩ := seqQ S p h1
        refine ⟨.ref a, vs.length, rfl, ?_, by rw [pa.length]; exact eff_ret S t (.int _) h2⟩
        rcases hq with hq | hq
        · exact .inl ⟨vs, hq, rfl⟩
        · exact .inr ⟨vs, hq, rfl⟩
      cases p with
      | str s => exact ⟨.str s, s.length, rfl, ⟨by rw [← LIM_eq]; exact h.1, rfl⟩, eff_ret S t (.int _) h.2⟩
      | _ => exact seq h
theorem tyN_ok {v : V} {d : D} {n : String} (S : SRp K B H m) (p : Dp K B v d) (h : tyN m d = some n) : TyX K H v (.type n) := by
  cases p with
  | non => cases h; exact .base .non
  | bl b => cases h; exact .base (.bl b)
  | int b => cases h; exact .base (.int b)
  | str b => cases h; exact .base (.str b)
  | tup h1 h2 =>
    cases h
    rcases sqT_mono S.same h1 with (z | ⟨o, z⟩) | ⟨o, its, k, z1, z2, _⟩
    · exact .base (.tup z)
    · exact .fTuple z
    · exact .kTuple z1 z2
  | lst h1 h2 => cases h; exact .base (.lst (S.same _ _ h1))
  | ref a =>
    simp only [tyN] at h
    cases q : m a with
    | none => rw [q] at h; cases h
    | some mo => rw [q] at h; cases mo with
      | lst xs => cases h; obtain ⟨vs, e, _⟩ := S.list q; exact .base (.lst e)
      | dct xs => cases h; obtain ⟨vs, e, _⟩ := S.dct q; exact .base (.dK e)
      | ins => cases h
  | _ => cases h
theorem isiN_ok : ∀ a ∈ ["NoneType", "bool", "int", "str", "tuple", "list", "dict"], ∀ b ∈ ["int", "bool", "str", "tuple", "list"], kitB a b = some (isiN a b) := by decide +kernel
theorem tyN_mem {d : D} {n : String} (h : tyN m d = some n) : n ∈ ["NoneType", "bool", "int", "str", "tuple", "list", "dict"] := by
  cases d with
  | ref a =>
    simp only [tyN] at h
    cases q : m a with
    | none => rw [q] at h; cases h
    | some mo => rw [q] at h; cases mo <;> cases h <;> decide
  | _ => first | (cases h; decide) | cases h
theorem isi_ : CallD X (.builtin "isinstance") wIsi := by
  refine ⟨_, call_isi, fun B us ds p H m R Q S h t => ?_⟩
  cases p with
  | nil => exact h.elim
  | cons p ps => cases ps with
    | nil => exact h.elim
    | cons q qs => cases qs with
      | cons _ _ => exfalso; cases q <;> exact h
      | nil => cases q with
        | ty T =>
          obtain ⟨hT, h⟩ := h
          obtain ⟨n, h1, h2⟩ := ok_iff.mp h
          exact ⟨_, _, _, _, _, rfl, .ty T, tyN_ok S p h1, kit_ty (isiN_ok n (tyN_mem h1) T hT), eff_ret S t (.bl _) h2⟩
        | _ => exact h.elim
theorem bls_dp : ∀ {vs : List V} {bs : List Bool}, DpAll K B vs (bs.map .bl) → vs = bs.map V.bl
  | [], [], _ => rfl
  | v :: vs, b :: bs, h => by cases h with | cons h1 h2 => cases h1; rw [bls_dp h2]; rfl
  | [], b :: bs, h => by cases h
  | v :: vs, [], h => by cases h
theorem ints_dp : ∀ {vs : List V} {bs : List Int}, DpAll K B vs (bs.map .int) → vs = bs.map V.int
  | [], [], _ => rfl
  | v :: vs, b :: bs, h => by cases h with | cons h1 h2 => cases h1; rw [ints_dp h2]; rfl
  | [], b :: bs, h => by cases h
  | v :: vs, [], h => by cases h
theorem strs_dp : ∀ {vs : List V} {bs : List Str}, DpAll K B vs (bs.map .str) → vs = bs.map V.str
  | [], [], _ => rfl
  | v :: vs, b :: bs, h => by cases h with | cons h1 h2 => cases h1; rw [strs_dp h2]; rfl
  | [], b :: bs, h => by cases h
  | v :: vs, [], h => by cases h
theorem dp_ints : ∀ (ns : List Int), DpAll K B (ns.map V.int) (ns.map .int)
  | [] => .nil
  | n :: ns => .cons (.int n) (dp_ints ns)
theorem one_arg {us : List V} {ds : List D} {d : D} (p : DpAll K B us ds) (e : ds = [d]) : ∃ v, us = [v] ∧ Dp K B v d := by
  subst e
  cases p with
  | cons p ps => cases ps; exact ⟨_, rfl, p⟩
theorem all_ (hc : X.calm = true) : CallD X (.builtin "all") wAll := by
  refine ⟨_, cr_all hc, fun B us ds p H m R Q S h t => ?_⟩
  match ds, h with
  | [d], h =>
    obtain ⟨v, rfl, p1⟩ := one_arg p rfl
    obtain ⟨bs, h1, h2⟩ := h
    obtain ⟨a, vs, rfl, ha, pa⟩ := seqL S p1 h1
    rw [bls_dp pa] at ha
    exact ⟨a, bs, rfl, .inl (.inl ha), eff_ret S t (.bl _) h2⟩
theorem any_ (hc : X.calm = true) : CallD X (.builtin "any") wAny := by
  refine ⟨_, cr_any hc, fun B us ds p H m R Q S h t => ?_⟩
  match ds, h with
  | [d], h =>
    obtain ⟨v, rfl, p1⟩ := one_arg p rfl
    obtain ⟨bs, h1, h2⟩ := h
    obtain ⟨a, vs, rfl, ha, pa⟩ := seqL S p1 h1
    rw [bls_dp pa] at ha
    exact ⟨a, bs, rfl, .inl (.inl ha), eff_ret S t (.bl _) h2⟩
theorem sum_ (hc : X.calm = true) : CallD X (.builtin "sum") wSum := by
  refine ⟨_, cr_sum hc, fun B us ds p H m R Q S h t => ?_⟩
  match ds, h with
  | [d], h =>
    obtain ⟨v, rfl, p1⟩ := one_arg p rfl
    obtain ⟨bs, h1, h2⟩ := h
    obtain ⟨a, vs, rfl, ha, pa⟩ := seqL S p1 h1
    rw [ints_dp pa] at ha
    exact ⟨a, bs, rfl, .inl (.inl ha), eff_ret S t (.int _) h2⟩
theorem minL_ (hc : X.calm = true) : CallD X (.builtin "min") wMinL := by
  refine ⟨_, cr_min hc, fun B us ds p H m R Q S h t => ?_⟩
  match ds, h with
  | [d], h =>
    obtain ⟨v, rfl, p1⟩ := one_arg p rfl
    obtain ⟨bs, h1, h2, h3⟩ := h
    obtain ⟨a, vs, rfl, ha, pa⟩ := seqL S p1 h1
    rw [ints_dp pa] at ha
    exact ⟨a, bs, rfl, .inl (.inl ha), h2, fun z z1 z2 => eff_ret S t (.int _) (h3 z z1 z2)⟩
theorem maxL_ (hc : X.calm = true) : CallD X (.builtin "max") wMaxL := by
  refine ⟨_, cr_max hc, fun B us ds p H m R Q S h t => ?_⟩
  match ds, h with
  | [d], h =>
    obtain ⟨v, rfl, p1⟩ := one_arg p rfl
    obtain ⟨bs, h1, h2, h3⟩ := h
    obtain ⟨a, vs, rfl, ha, pa⟩ := seqL S p1 h1
    rw [ints_dp pa] at ha
    exact ⟨a, bs, rfl, .inl (.inl ha), h2, fun z z1 z2 => eff_ret S t (.int _) (h3 z z1 z2)⟩
theorem sortI_ {b : Bool} : CallD X (.builtin "sorted") (wSortI b) := by
  refine ⟨_, cr_sortedI, fun B us ds p H m R Q S h t => ?_⟩
  match ds, h with
  | [d], h =>
    obtain ⟨v, rfl, p1⟩ := one_arg p rfl
    obtain ⟨bs, h1, h2⟩ := h
    obtain ⟨a, vs, rfl, ha, pa⟩ := seqL S p1 h1
    rw [ints_dp pa] at ha
    exact ⟨a, bs, rfl, .inl (.inl ha), fun ns' q z1 z2 nq => eff_nw S t (dp_ints ns') (h2 ns' z1 z2) q nq⟩
theorem tuple_ : CallD X (.type "tuple") wTuple := by
  refine ⟨_, call_tuple_of, fun B us ds p H m R Q S h t => ?_⟩
  match ds, h with
  | [d], h =>
    obtain ⟨v, rfl, p1⟩ := one_arg p rfl
    obtain ⟨xs, h1, h2⟩ := ok_iff.mp h
    cases d with
    | tup ys =>
      cases h1
      cases p1 with
      | tup q1 q2 => exact ⟨_, _, rfl, .inr ⟨sqT_mono S.same q1, eff_ret S t (.tup q1 q2) h2⟩⟩
    | lst ys => obtain ⟨a, vs, rfl, ha, pa⟩ := seqL S p1 h1; exact ⟨a, vs, rfl, .inl ⟨.inl (.inl ha), eff_tup S t pa h2⟩⟩
    | ref ys => obtain ⟨a, vs, rfl, ha, pa⟩ := seqL S p1 h1; exact ⟨a, vs, rfl, .inl ⟨.inl (.inl ha), eff_tup S t pa h2⟩⟩
    | scr ys =>
      cases h1
      cases p1 with
      | scr q1 => exact ⟨_, _, rfl, .inl ⟨S.same.seq q1, eff_tup S t (scr_dp ys) h2⟩⟩
    | _ => cases h1
theorem list_ {b : Bool} : CallD X (.type "list") (wList b) := by
  refine ⟨_, call_list_of, fun B us ds p H m R Q S h t => ?_⟩
  match ds, h with
  | [d], h =>
    obtain ⟨v, rfl, p1⟩ := one_arg p rfl
    obtain ⟨xs, h1, h2⟩ := ok_iff.mp h
    obtain ⟨a, vs, rfl, hq, pa⟩ := seqQ S p1 h1
    exact ⟨a, vs, rfl, hq, eff_nw S t pa h2⟩
theorem int_ : CallD X (.type "int") wInt := by
  refine ⟨_, call_int1, fun B us ds p H m R Q S h t => ?_⟩
  match ds, h with
  | [.int i], h =>
    obtain ⟨v, rfl, p1⟩ := one_arg p rfl
    cases p1
    exact .inl ⟨i, rfl, eff_ret S t (.int _) h⟩
  | [.bl i], h =>
    obtain ⟨v, rfl, p1⟩ := one_arg p rfl
    cases p1
    exact .inr ⟨i, rfl, eff_ret S t (.int _) h⟩
theorem abs_ : CallD X (.builtin "abs") wAbs := by
  refine ⟨_, call_abs, fun B us ds p H m R Q S h t => ?_⟩
  match ds, h with
  | [.int i], h =>
    obtain ⟨v, rfl, p1⟩ := one_arg p rfl
    cases p1
    exact ⟨i, rfl, eff_ret S t (.int _) h⟩
theorem two_arg {us : List V} {ds : List D} {d e : D} (p : DpAll K B us ds) (h : ds = [d, e]) : ∃ v u, us = [v, u] ∧ Dp K B v d ∧ Dp K B u e := by
  subst h
  cases p with
  | cons p ps => cases ps with
    | cons q qs => cases qs; exact ⟨_, _, rfl, p, q⟩
theorem max2_ (hc : X.calm = true) : CallD X (.builtin "max") wMax2 := by
  refine ⟨_, call_max2 hc, fun B us ds p H m R Q S h t => ?_⟩
  match ds, h with
  | [.int i, .int j], h =>
    obtain ⟨v, u, rfl, p1, q1⟩ := two_arg p rfl
    cases p1; cases q1
    exact ⟨i, j, rfl, eff_ret S t (.int _) h⟩
theorem min2_ (hc : X.calm = true) : CallD X (.builtin "min") wMin2 := by
  refine ⟨_, call_min2 hc, fun B us ds p H m R Q S h t => ?_⟩
  match ds, h with
  | [.int i, .int j], h =>
    obtain ⟨v, u, rfl, p1, q1⟩ := two_arg p rfl
    cases p1; cases q1
    exact ⟨i, j, rfl, eff_ret S t (.int _) h⟩
def MtD (X : Cx) (id : String) (w : WM) : Prop := ∃ r, MtR X id r ∧ ∀ B u d us ds, Dp X.K B u d → DpAll X.K B us ds → Eff X.K B (fun H Q => r u us H Q) (w d ds)
theorem tyM_ok {T : String} {v : V} {d : D} (S : SRp K B H m) (p : Dp K B v d) (h : tyM T m d) : tyV K T v H := by
  cases p with
  | str s => exact h
  | lst h1 h2 => exact .inl ⟨h, _, .inl (.inl (S.same _ _ h1))⟩
  | ref a =>
    simp only [tyM] at h
    cases q : m a with
    | none => rw [q] at h; exact h.elim
    | some mo => rw [q] at h; cases mo with
      | lst xs => obtain ⟨vs, e, _⟩ := S.list q; exact .inl ⟨h, _, .inl (.inl e)⟩
      | dct xs => obtain ⟨vs, e, _⟩ := S.dct q; exact .inr (.inr (.inl ⟨h, .inl ⟨_, e⟩⟩))
      | ins => exact h.elim
  | _ => exact h.elim
theorem pd_mt {T id : String} {name : Str} {w : WM} {cpos : Pos} (pa : PlainAttrs T) (slot : PySem.Slot T name id) (hty : typeOf (.builtin id) = pure (.type "method_descriptor")) (hm : MtD X id w) (ho : PE X o (up X.K W fa)) (ha : PA X (e :: es) (upA X.K W ga))
    (hbase : attributeBase o name X.env (eval o X.env) = eval o X.env := by rfl)
    (hfew : ((backTo cpos (starEach (e :: es) X.env)).all (fun x => !x.1) && (backToKw cpos (keywordEach [] X.env)).all (fun x => x.1.isSome)
      && decide ((e :: es).length + ([] : List Keyword).length + (if ([] : List Keyword).isEmpty then 0 else 1) < 30)) = true := by rfl)
    (hline : (apos.endLine == cpos.line) = true := by rfl) (hs : starEach (e :: es) X.env = (false, eval e X.env) :: starEach es X.env := by rfl) (hplain : (backTo cpos (starEach es X.env)).any (·.1) = false := by rfl) :
    PE X (.Call (.Attribute o name apos) (e :: es) [] cpos) (up X.K W (wMt T w fa ga)) := by
  obtain ⟨r, h1, h2⟩ := hm
  refine PE.imp (pe_bm pa slot hty h1 ho ha hbase hfew hline hs hplain) fun σ H Q h => ?_
  obtain ⟨B, ρ, m, R, x, er, S, h, t, tx⟩ := h
  refine ⟨B, ρ, m, _, x, er, S, h, fun B1 d m1 u H1 s1 S1 f1 p1 q1 => ⟨tyM_ok S1 p1 q1.1, ?_⟩, tx⟩
  refine ⟨B1, ρ, m1, _, x, er.mono s1, S1, q1.2, fun B2 ds m2 vs H2 s2 S2 f2 p2 q2 => ?_, tx.step s1 f1⟩
  exact h2 B2 u d vs ds (p1.mono s2) p2 H2 m2 R Q S2 q2 (t.step (s1.trans s2) (f1.trans f2))
theorem pd_mt0 {T id : String} {name : Str} {w : WM} {cpos : Pos} (pa : PlainAttrs T) (slot : PySem.Slot T name id) (hty : typeOf (.builtin id) = pure (.type "method_descriptor")) (hm : MtD X id w) (ho : PE X o (up X.K W fa))
    (hbase : attributeBase o name X.env (eval o X.env) = eval o X.env := by rfl) (hline : (apos.endLine == cpos.line) = true := by rfl) :
    PE X (.Call (.Attribute o name apos) [] [] cpos) (up X.K W (wMt T w fa wNil)) := by
  obtain ⟨r, h1, h2⟩ := hm
  refine PE.imp (pe_bm0 pa slot hty h1 ho hbase hline) fun σ H Q h => ?_
  obtain ⟨B, ρ, m, R, x, er, S, h, t, tx⟩ := h
  refine ⟨B, ρ, m, _, x, er, S, h, fun B1 d m1 u H1 s1 S1 f1 p1 q1 => ⟨tyM_ok S1 p1 q1.1, ?_⟩, tx⟩
  exact h2 B1 u d [] [] p1 .nil H1 m1 R Q S1 q1.2 (t.step s1 f1)
theorem eff_put {R : KD} {Q : VK} {p : Addr} {vs : List V} {ds ds0 : List D} {v : V} {d : D} (S : SRp K B H m) (t : Thn K B H m R Q) (hp : m p = some (.lst ds0)) (r : DpAll K B vs ds) (pv : Dp K B v d) (q : R d (sup m p (.lst ds))) : Q v (upd H p (.lst vs)) := by
  obtain ⟨S1, f1⟩ := S.put (ho := .lst vs) (mo := .lst ds) hp r
  exact t B d _ v _ (Same.refl B) S1 f1 pv q
theorem append_ : MtD X "list.append" wAppend := by
  refine ⟨_, mt_append, fun B u d us ds p ps H m R Q S h t => ?_⟩
  match d, ds, h with
  | .ref a, [y], h =>
    obtain ⟨v, rfl, q⟩ := one_arg ps rfl
    cases p
    obtain ⟨xs, h1, h2, h3⟩ := h
    obtain ⟨vs, e, r⟩ := S.list h1
    exact ⟨a, vs, v, rfl, rfl, e, by rw [← LIM_eq, r.length]; exact h2, eff_put S t h1 (r.append (.cons q .nil)) .non h3⟩
theorem extend_ : MtD X "list.extend" wExtend := by
  refine ⟨_, mt_extend, fun B u d us ds p ps H m R Q S h t => ?_⟩
  match d, ds, h with
  | .ref a, [y], h =>
    obtain ⟨v, rfl, q⟩ := one_arg ps rfl
    cases p
    obtain ⟨xs, ys, h1, h2, h3, h4⟩ := h
    obtain ⟨vs, e, r⟩ := S.list h1
    obtain ⟨b, ws, rfl, hb, pb⟩ := seqL S q h2
    exact ⟨a, b, vs, ws, rfl, rfl, e, hb, by rw [← LIM_eq, r.length, pb.length]; exact h3, eff_put S t h1 (r.append pb) .non h4⟩
theorem popAt_ : MtD X "list.pop" wPopAt := by
  refine ⟨_, mt_popAt, fun B u d us ds p ps H m R Q S h t => ?_⟩
  match d, ds, h with
  | .ref a, [.int i], h =>
    obtain ⟨v, rfl, q⟩ := one_arg ps rfl
    cases p
    cases q
    obtain ⟨xs, h1, h2, h3, h4⟩ := h
    obtain ⟨y, h5, h6⟩ := ok_iff.mp h4
    obtain ⟨vs, e, r⟩ := S.list h1
    obtain ⟨w, e1, pw⟩ := r.get h5
    have hlt : i.toNat < vs.length := (List.getElem?_eq_some_iff.mp e1).1
    have hix : seqIndex? i vs.length = some i.toNat := (ixN_seq (by unfold ixN; rw [if_pos h2, if_pos (by omega)])).1
    exact ⟨a, vs, i, i.toNat, w, rfl, rfl, e, by omega, by omega, hix, e1, eff_put S t h1 (r.erase _) pw h6⟩
theorem reverse_ : MtD X "list.reverse" wReverse := by
  refine ⟨_, mt_reverse, fun B u d us ds p ps H m R Q S h t => ?_⟩
  match d, ds, h with
  | .ref a, [], h =>
    cases ps
    cases p
    obtain ⟨xs, h1, h2⟩ := h
    obtain ⟨vs, e, r⟩ := S.list h1
    exact ⟨a, vs, rfl, rfl, e, eff_put S t h1 r.reverse .non h2⟩
theorem remI_ : MtD X "list.remove" wRemI := by
  refine ⟨_, mt_remove, fun B u d us ds p ps H m R Q S h t => ?_⟩
  match d, ds, h with
  | .ref a, [.int k], h =>
    obtain ⟨v, rfl, q⟩ := one_arg ps rfl
    cases p
    cases q
    obtain ⟨ns, j, h1, h2, h3, h4⟩ := h
    obtain ⟨vs, e, r⟩ := S.list h1
    rw [ints_dp r] at e
    exact ⟨a, ns, k, j, rfl, rfl, e, h2, h3, eff_put S t h1 (dp_ints _) .non h4⟩
theorem index_ : MtD X "list.index" wIndex := by
  refine ⟨_, mt_index, fun B u d us ds p ps H m R Q S h t => ?_⟩
  match ds, h with
  | [y], h =>
    obtain ⟨v, rfl, q⟩ := one_arg ps rfl
    obtain ⟨xs, j, z, h1, h2, h3, h4, h5, h6, h7⟩ := h
    obtain ⟨a, vs, rfl, ha, pa⟩ := seqL S p h1
    obtain ⟨w, e1, pw⟩ := pa.get h4
    have fz : flatD z = true := List.all_eq_true.mp h3 z (List.mem_of_getElem? h4)
    refine ⟨a, vs, v, j, w, rfl, rfl, .inl (.inl ha), flat_D q h2, flats_D pa h3, e1, by rw [eqV_D pw q fz h2]; exact h5, fun k z' hk e2 => ?_, eff_ret S t (.int _) h7⟩
    have hk' : k < xs.length := by
      have := (List.getElem?_eq_some_iff.mp h4).1
      omega
    obtain ⟨w', e3, pw'⟩ := pa.get (List.getElem?_eq_getElem hk')
    rw [e2] at e3
    cases e3
    rw [eqV_D pw' q (List.all_eq_true.mp h3 _ (List.getElem_mem hk')) h2]
    exact h6 k _ hk (List.getElem?_eq_getElem hk')
theorem upper1 : ∀ c < 128, Txt.upper ⟨#[c]⟩ = ⟨#[upC c]⟩ := by decide +kernel
theorem lower1 : ∀ c < 128, Txt.lower ⟨#[c]⟩ = ⟨#[loC c]⟩ := by decide +kernel
theorem upper_ : MtD X "str.upper" wUpper := by
  refine ⟨_, mt_upper, fun B u d us ds p ps H m R Q S h t => ?_⟩
  match d, ds, h with
  | .str s, [], h =>
    cases ps
    cases p
    obtain ⟨c, rfl, h1, h2⟩ := h
    exact ⟨_, rfl, rfl, by show (1 : Nat) ≤ 5592405; decide, by rw [upper1 c h1]; exact eff_ret S t (.str _) h2⟩
theorem lower_ : MtD X "str.lower" wLower := by
  refine ⟨_, mt_lower, fun B u d us ds p ps H m R Q S h t => ?_⟩
  match d, ds, h with
  | .str s, [], h =>
    cases ps
    cases p
    obtain ⟨c, rfl, h1, h2⟩ := h
    exact ⟨_, rfl, rfl, by show (1 : Nat) ≤ 5592405; decide, by rw [lower1 c h1]; exact eff_ret S t (.str _) h2⟩
theorem join_ : MtD X "str.join" wJoin := by
  refine ⟨_, mt_join, fun B u d us ds p ps H m R Q S h t => ?_⟩
  match d, ds, h with
  | .str s, [y], h =>
    obtain ⟨v, rfl, q⟩ := one_arg ps rfl
    cases p
    obtain ⟨ys, h1, h2, h3⟩ := h
    obtain ⟨a, vs, rfl, hq, pa⟩ := seqQ S q h1
    rw [strs_dp pa] at hq
    exact ⟨s, a, ys, rfl, rfl, hq, h2, by rw [TL.join_eq]; exact eff_ret S t (.str _) h3⟩
end
end DL
end
section
set_option maxHeartbeats 0
namespace DL
open PySem PySem.Spec PyProof.Rows L2
section
variable {X : Cx} {W : WX} {a b c o e : Expr} {fa fb fc : WE} {pos p apos cpos : Pos} {es : List Expr} {ga : WA} {K : PySem.W.Frag} {B H : Hp} {m : Store}
structure ExF (K : PySem.W.Frag) (mg : Str → Option Value) (x : Str) (C : Addr) : Prop where
  g : mg x = some (.ref C)
  q : PySem.W.excIn K C [.type "ValueError", .type "Exception", .type "BaseException", .type "object"] "ValueError.__new__" = true
  k : PySem.W.keepIn K (.ref C) = true
  b : PySem.W.subIn K (.ref C) (.type "BaseException") = some true
  t : PySem.W.typeIn K (.ref C) = some (.type "type")
theorem psd_raise {x s : Str} {C : Addr} {j : Nat} {p2 p3 : Pos} (hc : X.calm = true) (tk : L2N.Takes X W) (F : ExF X.K X.mg x C) (hg : Gl X x) (hdb : (x == ("__debug__" : Str)) = false := by decide) :
    PS X (.Raise (some (.Call (.Name x p) [.Constant (.str s) j p2] [] p3)) none pos) (upS X.K W (wRaise C)) := PS.imp (L2N.ps_raise hc tk (L2N.pmk_own PySem.F.excBase_ValueError F.q F.g F.k (raises_own F.b F.t) hg hdb)) fun E σ H ⟨B, r, m, k, er, S, h, t⟩ =>
  t.ex B σ r C m H (Same.refl B) S Frm.refl er h
theorem KRel.val {gs : List (Key × V)} {kvs : List (DKey × D)} {k : Key} : KRel K B gs kvs → (lookK kvs k = none → valV gs k = none) ∧ ∀ d, lookK kvs k = some d → ∃ v, valV gs k = some v ∧ Dp K B v d := by
  intro h
  unfold KRel at h
  induction h with
  | nil => exact ⟨fun _ => rfl, fun d h => nomatch h⟩
  | cons h t ih =>
    rename_i p q gs kvs
    obtain ⟨e, pd⟩ := h
    obtain ⟨g, v⟩ := p
    obtain ⟨g', d⟩ := q
    have e : g = g' := e
    subst e
    by_cases hf : g = k
    · rw [valV_pos (p := (g, v)) hf]
      refine ⟨fun z => ?_, fun d' z => ?_⟩
      · unfold lookK at z; rw [if_pos hf] at z; cases z
      · unfold lookK at z; rw [if_pos hf] at z; cases z; exact ⟨v, rfl, pd⟩
    · rw [valV_neg (p := (g, v)) hf]
      refine ⟨fun z => ?_, fun d' z => ?_⟩
      · unfold lookK at z; rw [if_neg hf] at z; exact ih.1 z
      · unfold lookK at z; rw [if_neg hf] at z; exact ih.2 d' z
theorem KRel.any {gs : List (Key × V)} {kvs : List (DKey × D)} {k : Key} (h : KRel K B gs kvs) : (gs.any fun kv => decide (kv.1 = k)) = (kvs.any fun kv => decide (kv.1 = k)) := by
  unfold KRel at h
  induction h with
  | nil => rfl
  | cons h t ih => rw [List.any_cons, List.any_cons, ih, h.1]
theorem KRel.repl {k : Key} {v : V} {d : D} (p : Dp K B v d) : ∀ {gs : List (Key × V)} {kvs : List (DKey × D)}, KRel K B gs kvs → KRel K B (gs.map fun kv => if kv.1 = k then (kv.1, v) else kv) (kvs.map fun kv => if kv.1 = k then (kv.1, d) else kv)
  | _, _, .nil => .nil
  | (g, v0) :: gs, (g', d0) :: kvs, .cons h t => by
    obtain ⟨e, h⟩ := h
    have e : g = g' := e
    subst e
    refine .cons ?_ (KRel.repl p t)
    show (if g = k then (g, v) else (g, v0)).1 = (if g = k then (g, d) else (g, d0)).1 ∧ Dp K B (if g = k then (g, v) else (g, v0)).2 (if g = k then (g, d) else (g, d0)).2
    split
    · exact ⟨rfl, p⟩
    · exact ⟨rfl, h⟩
theorem KRel.app : ∀ {gs gs' : List (Key × V)} {kvs kvs' : List (DKey × D)}, KRel K B gs kvs → KRel K B gs' kvs' → KRel K B (gs ++ gs') (kvs ++ kvs')
  | _, _, _, _, .nil, h' => h'
  | _, _, _, _, .cons h t, h' => .cons h (KRel.app t h')
theorem KRel.put {gs : List (Key × V)} {kvs : List (DKey × D)} {k : Key} {v : V} {d : D} (h : KRel K B gs kvs) (p : Dp K B v d) : KRel K B (putK gs k v) (putKD k d kvs) := by
  unfold putK putKD
  rw [h.any (k := k)]
  split
  · exact KRel.repl p h
  · exact KRel.app h (.cons ⟨rfl, p⟩ .nil)
theorem KRel.merge {gs more : List (Key × V)} {kvs mor : List (DKey × D)} (h : KRel K B gs kvs) (h' : KRel K B more mor) : KRel K B (mergeK gs more) (mergeD kvs mor) := by
  unfold mergeK mergeD
  unfold KRel at h'
  induction h' generalizing gs kvs with
  | nil => exact h
  | cons z t ih =>
    rename_i p q _ _
    rw [List.foldl_cons, List.foldl_cons]
    refine ih ?_
    rw [z.1]
    exact h.put z.2
theorem KRel.length {gs : List (Key × V)} {kvs : List (DKey × D)} (h : KRel K B gs kvs) : gs.length = kvs.length := Paired.length h
theorem keyD_v {v : V} {d : D} {k : DKey} (p : Dp K B v d) (h : keyD d = some k) : v = kV k := by
  cases p with
  | int i => cases h; rfl
  | str s => cases h; rfl
  | _ => cases h
theorem SRp.putD {gs : List (Key × V)} {kvs kvs0 : List (DKey × D)} {q : Addr} (S : SRp K B H m) (hq : m q = some (.dct kvs0)) (r : KRel K B gs kvs) : SRp K B (upd H q (.dK gs)) (sup m q (.dct kvs)) ∧ Frm B H m B (upd H q (.dK gs)) (sup m q (.dct kvs)) := S.put (ho := .dK gs) (mo := .dct kvs) hq r
theorem pd_dget (hu : X.A.units + 1 < cLine) (ho : PE X a (up X.K W fa)) (hi : PE X b (up X.K W fb)) (hs : NoSl b) : PE X (.Subscript a b pos) (up X.K W (wOp wDGet fa fb)) := PE.imp (pe_dget hu ho hi hs) fun σ H Q h => by
  refine two_up (r := fun x y H Q => ∃ a v, x = .ref a ∧ DGet H a y (some v) ∧ Q v H) (fun B u v d e p q H m R Q S h t => ?_) h
  cases p with
  | ref a =>
    obtain ⟨kvs, hk, h⟩ := h
    obtain ⟨k, h1, h⟩ := ok_iff.mp h
    obtain ⟨z, h2, h⟩ := ok_iff.mp h
    obtain ⟨gs, e1, rel⟩ := S.dct hk
    obtain ⟨w, e2, pw⟩ := (rel.val (k := k)).2 z h2
    have ev := keyD_v q h1
    subst ev
    refine ⟨a, w, rfl, ?_, eff_ret S t pw h⟩
    rw [← e2]
    exact DGet.k e1
  | _ => exact h.elim
theorem psd_dput {pos' : Pos} (hu : X.A.units + 1 < cLine) (ho : PE X a (up X.K W fa)) (hi : PE X b (up X.K W fb)) (hv : PE X c (up X.K W fc)) (hs : swapsWith c (some (.Subscript a b pos')) pos.line X.env = pure false := by rfl) :
    PS X (.Assign [.Subscript a b pos'] c pos) (upS X.K W (wDPut fa fb fc)) := PS.imp (ps_dput hu ho hi hv hs) fun E σ H ⟨B, r, m, k, er, S, h, t⟩ => by
  refine ⟨B, r, m, _, _, er, S, h, fun B1 d m1 u H1 s1 S1 f1 p1 q1 => ?_, t.x er⟩
  refine ⟨B1, r, m1, _, _, er.mono s1, S1, q1, fun B2 e m2 v H2 s2 S2 f2 p2 q2 => ?_, (t.x er).step s1 f1⟩
  refine ⟨B2, r, m2, _, _, er.mono (s1.trans s2), S2, q2, fun B3 g m3 y H3 s3 S3 f3 p3 q3 => ?_, (t.x er).step (s1.trans s2) (f1.trans f2)⟩
  cases e with
  | ref q =>
    obtain ⟨kvs, hk, hl, h⟩ := q3
    obtain ⟨kk, h1, h⟩ := ok_iff.mp h
    have eu : v = .ref q := by cases p2; rfl
    subst eu
    obtain ⟨gs, e1, rel⟩ := S3.dct hk
    have ev := keyD_v p3 h1
    subst ev
    obtain ⟨S4, f4⟩ := S3.putD hk (rel.put (k := kk) (p1.mono (s2.trans s3)))
    exact ⟨q, _, rfl, DPut.k e1 (by rw [← LIM_eq, rel.length]; exact hl), t.nx B3 σ r _ _ ((s1.trans s2).trans s3) S4 (((f1.trans f2).trans f3).trans f4) (er.mono ((s1.trans s2).trans s3)) h⟩
  | _ => exact q3.elim
theorem pd_dget2 (hu : X.A.units + 1 < cLine) (ho : PE X o (up X.K W fa)) (he : PE X e (up X.K W fb)) (hf : PE X a (up X.K W fc)) (mm : M2 X o "get" apos e a cpos) : PE X (.Call (.Attribute o "get" apos) [e, a] [] cpos) (up X.K W (wDGet2 fa fb fc)) := PE.imp (pe_dget2 hu ho he hf mm) fun σ H Q h => by
  obtain ⟨B, ρ, m, R, x, er, S, h, t, tx⟩ := h
  refine ⟨B, ρ, m, _, x, er, S, h, fun B1 d m1 u H1 s1 S1 f1 p1 q1 => ?_, tx⟩
  cases d with
  | ref q =>
    obtain ⟨⟨kvs, hk⟩, q1⟩ := q1
    have eu : u = .ref q := by cases p1; rfl
    subst eu
    obtain ⟨gs, e1, rel⟩ := S1.dct hk
    refine ⟨q, rfl, .inl ⟨gs, .inl e1⟩, B1, ρ, m1, _, x, er.mono s1, S1, q1, fun B2 e m2 v H2 s2 S2 f2 p2 q2 => ?_, tx.step s1 f1⟩
    refine ⟨B2, ρ, m2, _, x, er.mono (s1.trans s2), S2, q2, fun B3 g m3 y H3 s3 S3 f3 p3 q3 => ?_, tx.step (s1.trans s2) (f1.trans f2)⟩
    obtain ⟨kvs', hk', h⟩ := q3
    obtain ⟨kk, h1, h⟩ := ok_iff.mp h
    obtain ⟨gs', e1', rel'⟩ := S3.dct hk'
    have ev := keyD_v p2 h1
    subst ev
    refine ⟨_, DGet.k e1', ?_⟩
    cases q : lookK kvs' kk with
    | none =>
      rw [(rel'.val (k := kk)).1 q]
      rw [q] at h
      exact t B3 _ m3 _ H3 ((s1.trans s2).trans s3) S3 ((f1.trans f2).trans f3) p3 h
    | some z =>
      obtain ⟨w, e2, pw⟩ := (rel'.val (k := kk)).2 z q
      rw [e2]
      rw [q] at h
      exact t B3 _ m3 _ H3 ((s1.trans s2).trans s3) S3 ((f1.trans f2).trans f3) pw h
  | _ => exact q1.1.elim
structure PPd (X : Cx) (W : WX) (pos : Pos) (keys : List (Option Expr)) (values : List Expr) (ps : List (WE × WE)) : Prop where
  run : PPs X pos keys values (ps.map fun q => (up X.K W q.1, up X.K W q.2))
theorem ppd_nil : PPd X W pos [] [] [] := ⟨pps_nil⟩
theorem ppd_cons {ks : List (Option Expr)} {vs : List Expr} {ps : List (WE × WE)} (hk : PE X a (up X.K W fa)) (hv : PE X b (up X.K W fb)) (hr : PPd X W pos ks vs ps) : PPd X W pos (some a :: ks) (b :: vs) ((fa, fb) :: ps) := ⟨pps_cons hk hv hr.run⟩
theorem pairs_up {σ : L2.St} {r : Env} {x : XD} : ∀ (ps : List (WE × WE)) (B H : Hp) (m : Store) (Kd : List (D × D) → Store → Prop) (Q : List (V × V) → Hp → Prop), ERp X.K B σ r → SRp X.K B H m → wPairs ps r m Kd x → ThX X.K B H m x (fun C H' => W (.ref C) none σ H') →
    (∀ B' us m' vs H', Same B B' → SRp X.K B' H' m' → Frm B H m B' H' m' → Paired (fun (v : V × V) (u : D × D) => Dp X.K B' v.1 u.1 ∧ Dp X.K B' v.2 u.2) vs us → Kd us m' → Q vs H') → tPairs (ps.map fun q => (up X.K W q.1, up X.K W q.2)) σ H Q
  | [], B, H, m, Kd, Q, er, S, h, tx, q => q B [] m [] H (Same.refl B) S Frm.refl .nil h
  | (f, g) :: ps, B, H, m, Kd, Q, er, S, h, tx, q => by
    refine ⟨B, r, m, _, x, er, S, h, fun B1 d m1 u H1 s1 S1 f1 p1 q1 => ?_, tx⟩
    refine ⟨B1, r, m1, _, x, er.mono s1, S1, q1, fun B2 e m2 v H2 s2 S2 f2 p2 q2 => ?_, tx.step s1 f1⟩
    exact pairs_up ps B2 H2 m2 _ _ (er.mono (s1.trans s2)) S2 q2 (tx.step (s1.trans s2) (f1.trans f2)) fun B3 us m3 vs H3 s3 S3 f3 p3 q3 =>
      q B3 _ m3 _ H3 ((s1.trans s2).trans s3) S3 ((f1.trans f2).trans f3) (.cons ⟨p1.mono (s2.trans s3), p2.mono s3⟩ p3) q3
theorem keysD_v {vs : List (V × V)} {us : List (D × D)} (h : Paired (fun (v : V × V) (u : D × D) => Dp K B v.1 u.1 ∧ Dp K B v.2 u.2) vs us) : ∀ kvs, keysD us = some kvs → ∃ gs : List (Key × V), vs = gs.map (fun kv => (kV kv.1, kv.2)) ∧ KRel K B gs kvs := by
  induction h with
  | nil => intro kvs e; cases e; exact ⟨[], rfl, .nil⟩
  | cons h t ih =>
    rename_i v u vs us
    intro kvs e
    obtain ⟨v1, v2⟩ := v
    obtain ⟨u1, u2⟩ := u
    unfold keysD at e
    cases q1 : keyD u1 with
    | none => rw [q1] at e; cases e
    | some k => cases q2 : keysD us with
      | none => rw [q1, q2] at e; cases e
      | some ks =>
        rw [q1, q2] at e
        cases e
        obtain ⟨gs, e1, r1⟩ := ih ks q2
        have ev := keyD_v h.1 q1
        refine ⟨(k, v2) :: gs, ?_, .cons ⟨rfl, h.2⟩ r1⟩
        have ev : v1 = kV k := ev
        rw [e1, ev]; rfl
theorem pd_disp {keys : List (Option Expr)} {values : List Expr} {ps : List (WE × WE)} (h : PPd X W pos keys values ps) (hall : keys.all (·.isSome) = true) (hl : keys.length = values.length) (h0 : keys ≠ []) (h15 : keys.length ≤ 15) : PE X (.Dict keys values pos) (up X.K W (wDisp ps)) := PE.imp (pe_disp h.run hall hl h0 h15) fun σ H Q h => by
  obtain ⟨B, ρ, m, R, x, er, S, h, t, tx⟩ := h
  intro q nq
  obtain ⟨S1, f1⟩ := S.free (ho := .dK []) nq
  have hB : B q = none := by
    cases z : B q with
    | none => rfl
    | some o => rw [S.same _ _ z] at nq; cases nq
  have hm : m q = none := by
    cases z : m q with
    | none => rfl
    | some o => obtain ⟨_, ho', z1, _⟩ := S.obj _ _ z; rw [z1] at nq; cases nq
  refine pairs_up ps B _ m _ _ er S1 h (tx.step (Same.refl B) f1) fun B2 us m2 vs H2 s2 S2 f2 p2 q2 => ?_
  obtain ⟨hl2, q2⟩ := q2
  obtain ⟨kvs, h1, h2⟩ := ok_iff.mp q2
  obtain ⟨gs, e1, rel⟩ := keysD_v p2 kvs h1
  have hq : H2 q = some (.dK []) := f2.keep q _ upd_same hm
  have mq : m2 q = none := f2.out q _ upd_same hm
  have bq : B2 q = none := f2.bout q _ upd_same hm hB
  have hlen : gs.length ≤ 15 := by
    have := Paired.length p2
    rw [e1, List.length_map] at this
    omega
  refine ⟨hq, gs, e1, hlen, t B2 (.ref q) (sup m2 q (.dct (mergeD [] kvs))) (.ref q) _ s2 ⟨fun z o ez => ?_, fun z mo ez => ?_⟩ ⟨fun z ho ez nz => ?_, fun z ho ez nz => ?_, fun z ho ez nz bz => ?_⟩ (.ref q) (h2 q mq)⟩
  · rw [upd_ne (ne_of_none ez bq)]; exact S2.same _ _ ez
  · by_cases hz : z = q
    · subst hz
      rw [sup_same] at ez
      cases ez
      exact ⟨bq, _, upd_same, KRel.merge .nil rel⟩
    · rw [sup_ne hz] at ez
      obtain ⟨z1, ho, z2, z3⟩ := S2.obj z mo ez
      exact ⟨z1, ho, by rw [upd_ne hz]; exact z2, z3⟩
  · have nzq : z ≠ q := ne_of_none ez nq
    rw [upd_ne nzq]
    exact f2.keep z ho (by rw [upd_ne nzq]; exact ez) nz
  · have nzq : z ≠ q := ne_of_none ez nq
    rw [sup_ne nzq]
    exact f2.out z ho (by rw [upd_ne nzq]; exact ez) nz
  · have nzq : z ≠ q := ne_of_none ez nq
    exact f2.bout z ho (by rw [upd_ne nzq]; exact ez) nz bz
theorem mt_update : MtR X "dict.update" (fun x xs H Q => ∃ (a b : Addr) (kvs more : List (Key × V)), x = .ref a ∧ xs = [.ref b] ∧ a ≠ b ∧ H a = some (.dK kvs) ∧ H b = some (.dK more) ∧ kvs.length + more.length ≤ sizeLine ∧ Q .non (upd H a (.dK (mergeK kvs more)))) := by
  intro pins s σ H x xs v us Q I rx rxs h
  obtain ⟨a, b, kvs, more, rfl, rfl, nab, ha, hb, hz, q⟩ := h
  cases rx
  obtain ⟨u, rfl, ru⟩ := rxs.one
  cases ru
  obtain ⟨z1, hd1, vs, rel1, dd1⟩ := dk_of I.hok ha
  obtain ⟨z2, hd2, ws, rel2, dd2⟩ := dk_of I.hok hb
  refine call_meetsIn PySem.F.slot_dict_update dd1.typeIs PySem.F.entry_dict_update (PySem.F.args_dict_update_2 _ _) (meets_dict_update (mixKind X.prog X.w) a b nab hd2) ⟨vs, ws, dd1, dd2, by rw [← rel1.length, ← rel2.length]; exact hz, fun h' hd' hd2' hs => ?_⟩
  have hlen : (mergeK kvs more).length ≤ sizeLine := Nat.le_trans (length_mergeK more kvs) hz
  refine ⟨.non, _, d_write (t' := s.toks) I (by rw [ha]; exact True.intro) hs ?_ (dk_new hlen hd1 (rel2.merge rel1) hd'), rfl, q⟩
  obtain ⟨o, _, _, e, _⟩ := hd'
  exact ⟨o, e⟩
theorem update_ : MtD X "dict.update" wUpdate := by
  refine ⟨_, mt_update, fun B u d us ds p ps H m R Q S h t => ?_⟩
  match d, ds, h with
  | .ref a, [.ref b], h =>
    obtain ⟨v, rfl, q⟩ := one_arg ps rfl
    cases p
    cases q
    obtain ⟨kvs, more, nab, h1, h2, h3, h4⟩ := h
    obtain ⟨gs, e1, r1⟩ := S.dct h1
    obtain ⟨hs, e2, r2⟩ := S.dct h2
    obtain ⟨S1, f1⟩ := S.putD h1 (r1.merge r2)
    exact ⟨a, b, gs, hs, rfl, rfl, nab, e1, e2, by rw [← LIM_eq, r1.length, r2.length]; exact h3, t B _ _ _ _ (Same.refl B) S1 f1 .non h4⟩
theorem count_U {x : V} : ∀ {xs : List V} {us : List Value}, Vals xs us → xs.all flatV = true → us.countP (eqU x) = xs.countP fun y => eqV y x
  | _, _, .nil, _ => rfl
  | _, _, .cons r t, f => by
    rw [List.all_cons] at f
    have f' := Bool.and_eq_true_iff.mp f
    rw [List.countP_cons, List.countP_cons, eqU_of r f'.1, count_U t f'.2]
theorem mt_countF : MtR X "list.count" (fun x xs H Q => ∃ (p : Addr) (ys : List V) (y : V), x = .ref p ∧ xs = [y] ∧ SqL X.K H p ys ∧ flatV y = true ∧ ys.all flatV = true ∧ Q (.int ((ys.countP fun z => eqV z y : Nat) : Int)) H) := by
  intro pins s σ H x xs v us Q I rx rxs h
  obtain ⟨p, ys, y, rfl, rfl, hs, fy, fs, q⟩ := h
  cases rx
  obtain ⟨u, rfl, ru⟩ := rxs.one
  obtain ⟨its, rv, ⟨⟨cls, dd, data, sl⟩, n, ho, hc, hdn, hd⟩, hlen⟩ := I.list hs
  simp only at hc hd
  subst hc hd
  refine call_meets PySem.F.slot_list_count ⟨_, ho, rfl⟩ PySem.F.entry_list_count (PySem.F.args_list_count_2 _ _)
    (SeqAt.list_countAt p its.toArray n dd sl u (eqU y)) ⟨ho, fun z hz => mem_eqAt ru fy rv fs z (by simpa using hz), ?_⟩
  refine ⟨.int ((ys.countP fun z => eqV z y : Nat) : Int), H, I.tok _, ⟨s.toks, ?_⟩, q⟩
  show Value.int ((its.toArray.toList.countP (eqU y) : Nat) : Int) s.toks = _
  rw [show its.toArray.toList.countP (eqU y) = ys.countP fun z => eqV z y from count_U rv fs]
theorem countP_D {y : V} {d : D} (p : Dp K B y d) (f : flatD d = true) : ∀ {vs : List V} {ds : List D}, DpAll K B vs ds → ds.all flatD = true → (vs.countP fun z => eqV z y) = ds.countP fun z => eqD z d
  | _, _, .nil, _ => rfl
  | _, _, .cons h t, g => by
    rw [List.all_cons] at g
    have g' := Bool.and_eq_true_iff.mp g
    rw [List.countP_cons, List.countP_cons, eqV_D h p g'.1 f, countP_D p f t g'.2]
theorem count_ : MtD X "list.count" wCount := by
  refine ⟨_, mt_countF, fun B u d us ds p ps H m R Q S h t => ?_⟩
  match ds, h with
  | [y], h =>
    obtain ⟨v, rfl, q⟩ := one_arg ps rfl
    obtain ⟨xs, h1, h2, h3, h4⟩ := h
    obtain ⟨a, vs, rfl, ha, pa⟩ := seqL S p h1
    exact ⟨a, vs, v, rfl, rfl, .inl (.inl ha), flat_D q h2, flats_D pa h3, by rw [countP_D q h2 pa h3]; exact eff_ret S t (.int _) h4⟩
end
end DL
end
section
set_option maxHeartbeats 0
namespace DL
open PySem PySem.Spec PyProof.Rows L2 L2H
def FnW (P : Program) (w : World) (K : PySem.W.Frag) (mg : Str → Option Value) (base : Heap) (k : Nat) (f : Addr) (fd : FuncData) (Dc : Addr) (v : D) : Prop :=
  ∀ (A : Around) (outer : List PySem.Env) (s : Shared) (H : Hp) (Q : VK) (p : Addr × Obj) (args : Args), RoomH k A → Hot1 A p → PinOk outer H s p → Env0 P w K mg base A outer s H → BindsTo s fd args ((["e"] : List Str).zip [.ref p.1]) → L2N.Zn (.ref Dc) none p.2 → (∃ vs, p.2.data = .fields vs) →
    (∃ B m R, SRp K B H m ∧ R v m ∧ Thn K B H m R Q) → codeAny (model P w) A (.call (.ref f) args) (CR (L2N.CX P w) outer P w H s Q E0) s
section
variable {P : Program} {w : World} {K : PySem.W.Frag} {mg : Str → Option Value} {base : Heap}
abbrev cxW (P : Program) (w : World) (K : PySem.W.Frag) (mg : Str → Option Value) (base : Heap) (N : List Str) (qual : Str) (st : Stmt) (f : Addr) (cdv : Value) (A : Around) (outer : List PySem.Env) (s : Shared) (H : Hp) (p : Addr × Obj) : Cx := cxH (L2N.CX P w) P w K mg base N qual (defScope st) f cdv A outer s H E0 p
theorem fnW {x qual : Str} {st : Stmt} {f : Addr} {fd : FuncData} {N : List Str} {k : Nat} {Dc : Addr} {v : D} {b : Addr → WS} (F : Fun K x qual st f fd) (S : FnScope N ["e"] (defScope st))
    (hd : ∀ (cdv : Value) (A : Around) (outer : List PySem.Env) (s : Shared) (H : Hp) (p : Addr × Obj), RoomH k (A.deeper (envOfC qual (defScope st) s.heap.objs.size f cdv)) → L2N.Zn (.ref Dc) none p.2 → (∃ vs, p.2.data = .fields vs) → PSs (cxW P w K mg base N qual st f cdv A outer s H p) (defBody st) (upS K W0 (b p.1)))
    (hg : ∀ a m R, R v m → b a (startD N.length [.ref a]) m (endD R (fun _ _ => False))) (hN : 1 ≤ N.length := by decide) : FnW P w K mg base (k + 1) f fd Dc v := by
  obtain ⟨oc, od, kV, doc, pm, an, cdv, ct, osl, rfl, lk, hcd⟩ := F.ex
  intro A outer s H Q p args hr hot hpin e0 hb hz hf h
  obtain ⟨B, m, R, hS, hR, ht⟩ := h
  have KX : K.In s.heap := e0.mod.kin.keeps fun b o e => (e0.bs b o e).1
  have lim : s.heap.NoLimit := e0.mod.nolimit.keeps fun b o e => (e0.bs b o e).1
  have hkind : ∀ y ∈ (["e"] : List Str).zip [Value.ref p.1], (defScope st).names.lookup y.1 = some .local ∨ ((defScope st).names.lookup y.1 = some .cell ∧ ((cellsFrom (s.heap.objs.size + 1) (defScope st).names []).lookup y.1).isSome = true) := fun ⟨n, v⟩ hy => by
    rcases S.par n (List.of_mem_zip hy).1 with q | q
    · exact .inl q
    · exact .inr ⟨q, PySem.W.cellsFrom_some _ _ _ (.inl q)⟩
  refine codeAny_call_function hr.depth (KX _ _ lk) rfl S.co S.gen rfl (PySem.W.codeRec_of KX hcd) (hb _ _ _ _ ?_)
  refine wpAny_newFunctionEnv_cells S.kind hkind fun env he s1 x => ?_
  subst he
  refine ⟨lim.keeps x.toInCall.keep, codeAny_func ?_⟩
  have I : Inv (cxW P w K mg base N qual st f cdv A outer s H p) [] (L2.start N [V.ref p.1]) H s1 := inv_startH S hpin e0 rfl (.cons rfl .nil) x
  have hp1 : DpAll K B [V.ref p.1] [D.ref p.1] := .cons (.ref _) .nil
  refine wpAny_mono ((hd cdv A outer s H p (hr.deeper _) hz hf).run [] s1 (L2.start N [V.ref p.1]) H { nx := fun _ H' => Q .non H', rt := Q } I ⟨B, startD N.length [.ref p.1], m, endD R (fun _ _ => False), start_erp hp1 hN, hS, hg p.1 m R hR, ?_⟩) (fun fl s' hs => ?_) fun e s' hs => hs
  · exact ⟨fun B' σ' r' m' H' a b c d q => ht B' .non m' .non H' a b c .non q, ht, fun _ _ _ _ _ _ _ _ _ _ z => z, fun _ _ _ _ _ _ _ _ _ z => z.elim, fun _ _ _ _ _ _ _ _ _ z => z.elim⟩
  · have fin : ∀ {σ' : L2.St} {H' : Hp} {v : V} {u : Value}, Inv (cxW P w K mg base N qual st f cdv A outer s H p) [] σ' H' s' → RelV v u → Q v H' → CE outer P w H s Q u s' :=
      fun {σ' H' v u} J rv q => ⟨v, H', J.os, J.bare, J.base, J.hok, rv, q⟩
    cases fl with
    | ret u =>
      obtain ⟨v, σ', H', J, rv, q⟩ := hs
      exact fin J rv q
    | next =>
      obtain ⟨σ', H', J, q⟩ := hs
      exact fin (v := V.non) (u := Value.none) J rfl q
    | brk =>
      obtain ⟨_, _, _, q⟩ := hs
      exact False.elim q
    | cont =>
      obtain ⟨_, _, _, q⟩ := hs
      exact False.elim q
end
section
variable {X : Cx} {W : WX} {pos p pos' p2 np : Pos}
theorem isE_hot {a Dc : Addr} {oe : Obj} (hp : (a, oe) ∈ X.pn) (C : ExcC X.K Dc) (hz : L2N.Zn (.ref Dc) none oe) (hf : ∃ vs, oe.data = .fields vs) : CallR X (.builtin "isinstance") (rIsE X.K Dc a) := by
  intro pins s σ H xs us Q I r h
  obtain ⟨c, cv, b, rfl, hcv, e, q⟩ := h
  cases r with
  | cons rx rr =>
    cases rr with
    | cons rt rr =>
      cases rr
      cases rx
      have ec := hcv _ rt
      subst ec
      obtain ⟨hget, _⟩ := I.pin (a, oe) (List.mem_append.mpr (.inl hp))
      obtain ⟨vs, hv⟩ := hf
      have J : PySem.W.InstAt s.heap a oe Dc none := by
        obtain ⟨oc, od, oda, osl⟩ := oe
        obtain ⟨h1, h2, _⟩ := hz
        dsimp only at h1 h2 hv
        subst h1 h2 hv
        exact ⟨hget, rfl, rfl, trivial⟩
      exact PySem.W.kia_one (PySem.W.handS_kitx_exc C.hg C.hk C.hs C.hd C.ha C.hn C.ht C.hm) I.kIn J e (fun z => nomatch z) fun tk => ⟨.bl b, H, I.kept (t' := tk) fun _ _ z => z, rfl, q⟩
def clsVal : D → Option Value
  | .ref C => some (.ref C)
  | .ty n => some (.type n)
  | _ => none
def wIsE (a : Addr) (tab : D → Option Bool) : WL := fun us m R => match us with
  | [.ref b, c] => b = a ∧ ok (tab c) fun v => R (.bl v) m
  | _ => False
theorem isE_ {a Dc : Addr} {oe : Obj} {tab : D → Option Bool} (hp : (a, oe) ∈ X.pn) (C : ExcC X.K Dc) (hz : L2N.Zn (.ref Dc) none oe) (hf : ∃ vs, oe.data = .fields vs) (ht : ∀ c v, tab c = some v → ∃ u, clsVal c = some u ∧ PySem.W.kitOne X.K (.ref Dc) u = some v) : CallD X (.builtin "isinstance") (wIsE a tab) := by
  refine ⟨_, isE_hot hp C hz hf, fun B us ds p H m R Q S h t => ?_⟩
  match ds, h with
  | [.ref b, c], h =>
    obtain ⟨v, u, rfl, p1, q1⟩ := two_arg p rfl
    obtain ⟨eb, h'⟩ := h
    subst eb
    obtain ⟨z, h1, h2⟩ := ok_iff.mp h'
    obtain ⟨cv, h3, h4⟩ := ht c z h1
    cases p1
    refine ⟨u, cv, z, rfl, fun uu ru => ?_, h4, eff_ret S t (.bl _) h2⟩
    cases q1 <;> cases h3 <;> exact ru
def wTry (wh : Addr → Option D) (s : WS) : WS := fun r m k => s r m { k with ex := fun C m' => ok (wh C) fun d => k.rt d m' }
theorem psd_tryW {body : List Stmt} {x fn : Str} {CI : Addr} {i k : Nat} {f : Addr} {fd : FuncData} {s1 : WS} {wh : Addr → Option D} {q3 q4 q5 : Pos} (hs : X.stack = X.env :: X.outer) (hf : X.env.frame = some X.env.locals) (hN : X.N.Nodup) (hi : X.N[i]? = some "e") (hln : X.env.kindOf "e" = some .local)
    (hx : Names X x (.ref CI)) (tk : L2N.Takes X W) (hc : X.calm = true) (hr : Room k X.A) (hgf : Gl X fn) (hmf : X.mg fn = some (.ref f)) (hkf : PySem.W.keepIn X.K (.ref f) = true) (hbf : Binds X.K fd ["e"] [])
    (hw : ∀ C v, wh C = some v → PySem.W.exmOne X.K (.ref C) (.ref CI) = some true ∧ FnW X.prog X.w X.K X.mg X.base k f fd C v)
    (hb : ∀ (W : WX) (pn : List (Addr × Obj)) (xe : Value → Shared → Prop), L2N.Takes (X.tr pn xe) W → PSs (X.tr pn xe) body (upS X.K W s1)) (hdb : (fn == ("__debug__" : Str)) = false := by decide) :
    PS X (.Try body [.ExceptHandler (some (.Name x np)) (some "e") [.Return (some (.Call (.Name fn q3) [.Name "e" q4] [] q5)) p2] pos'] [] [] pos) (upS X.K W (wTry wh s1)) := by
  let te : Addr → Value → Option Addr → TE := fun a cls d σ H Q => ∃ C v B m R, cls = .ref C ∧ d = none ∧ wh C = some v ∧ (∃ σ0 : L2.St, σ = σ0.set i (some (.ref a))) ∧ SRp X.K B H m ∧ R v m ∧ Thn X.K B H m R Q
  refine PS.imp (L2N.ps_try_as (c := .ref CI) (i := i) (ts := fun a cls d => tRet (te a cls d)) (tb := fun W => upS X.K W s1) (Wout := W) hs hf hN hi hln hx tk (fun W pn xe tk' _ => hb W pn xe tk') (fun a oe cls d pn hz hff => ?_)) fun E σ H ⟨B, r, m, k, er, S, h, t⟩ => ?_
  · refine pss_one (ps_ret ⟨fun pins s σ H Q I h => ?_⟩)
    obtain ⟨C, v, B, m, R, e1, e2, hv, hsl, hS, hR, hT⟩ := h
    subst e1
    subst e2
    obtain ⟨σ0, eσ⟩ := hsl
    have hsl : σ[i]? = some (some (V.ref a)) := by
      have hl : i < σ0.length := by
        have h1 : i < X.N.length := (List.getElem?_eq_some_iff.mp hi).1
        have h2 : σ.length = X.N.length := I.len
        rw [eσ, List.length_set] at h2
        omega
      rw [eσ]
      exact List.getElem?_set_self hl
    refine wpAny_Call_Name_kw (ld_glob I hgf hmf ?_ hdb)
    have hpe : PE (X.suite a ((a, oe) :: pn)) (.Name "e" q4) (tVar i) := pe_var hi (.inl hln)
    have ha : PA (X.suite a ((a, oe) :: pn)) [.Name "e" q4] (tCons (tVar i) tNil) := pa_cons hpe pa_nil
    refine PySem.W.callWith_K (h₀ := X.base) I.ok.mod.kin hkf (thn (ha.run q5 pins s σ H (fun vs H1 => vs = [V.ref a] ∧ H = H1) I ⟨.ref a, hsl, rfl, rfl⟩) fun us s1 hh => ?_)
    obtain ⟨vs, H1, I1, r1, ev, eH⟩ := hh
    subst ev
    rw [← eH] at I1
    refine ⟨I1.kIn, ?_⟩
    cases r1 with
    | cons ru rn =>
      cases rn
      cases ru
      obtain ⟨_, FW⟩ := hw C v hv
      have P1 := I1.pin (a, oe) (List.mem_append_left _ List.mem_cons_self)
      have hpin : PinOk (X.suite a ((a, oe) :: pn)).stack H s1 (a, oe) := ⟨P1.1, P1.2.1, fun hm => (List.mem_cons.mp (I1.stkSub a hm)).elim P1.2.2.1 P1.2.2.2.1, P1.2.2.2.2⟩
      have hot : Hot1 (X.suite a ((a, oe) :: pn)).A (a, oe) := by
        obtain ⟨vs, hv⟩ := hff
        exact ⟨rfl, vs, hv, hz.2.2 vs hv⟩
      have bb := hbf s1 [Value.ref a] I1.kIn rfl
      refine wpAny_call (codeAny_mono (FW (X.suite a ((a, oe) :: pn)).A X.stack s1 H Q (a, oe) ⟨[Value.ref a], []⟩ ⟨hr.dp, hr.un⟩ hot hpin I1.env0 bb hz hff ⟨B, m, R, hS, hR, hT⟩) fun r s' hq => ?_)
      cases r with
      | error e =>
        obtain ⟨_, _, _, _, _, _, _, _, _, _, _, _, z⟩ := hq
        exact z.elim
      | ok fl =>
        cases fl with
        | ret u => exact I1.after hq
        | next => exact False.elim hq
        | brk => exact False.elim hq
        | cont => exact False.elim hq
  · refine ⟨B, r, m, _, er, S, h, t.nx, t.rt, fun B' σ' r' C m' H' a b c d q => ?_, t.bk, t.ct⟩
    obtain ⟨v, hv, q⟩ := ok_iff.mp q
    refine ⟨true, (hw C v hv).1, fun _ ad nad => ?_, fun z => Bool.noConfusion z⟩
    exact ⟨C, v, B', m', k.rt, rfl, rfl, hv, ⟨σ', rfl⟩, b, q, t.rt.step a c⟩
def wCallV (tab : Addr → Option (Nat × FW)) (f : WE) (a : WA) : WE := fun r m R x => f r m (fun u m1 => match u with
  | .ref q => ok (tab q) fun g => a r m1 (fun us m2 => us.length = g.1 ∧ g.2 us m2 R x) x
  | _ => False) x
theorem pd_callV {func e : Expr} {es : List Expr} {ff : WE} {ga : WA} {k : Nat} {tab : Addr → Option (Nat × FW)} (hf : PE X func (up X.K W ff)) (hr : Room k X.A) (tk : L2N.Takes X W)
    (ht : ∀ q g, tab q = some g → ∃ fd ps, FnOk X.prog X.w X.K X.mg X.base (L2N.CX X.prog X.w) k q fd ps (spD X.K g.1 g.2) ∧ PySem.W.keepIn X.K (.ref q) = true ∧ Binds X.K fd ps [])
    (ha : PA X (e :: es) (upA X.K W ga)) (hev : eval (.Call func (e :: es) [] pos) X.env = (do callWith pos (← eval func X.env) [] (backTo pos (starEach (e :: es) X.env)) (backToKw pos (keywordEach [] X.env))) := by rfl)
    (he : starEach (e :: es) X.env = (false, eval e X.env) :: starEach es X.env := by rfl) (hpl : (backTo pos (starEach es X.env)).any (·.1) = false := by rfl) :
    PE X (.Call func (e :: es) [] pos) (up X.K W (wCallV tab ff ga)) := by
  refine ⟨fun pins s σ H Q I h => ?_⟩
  obtain ⟨B, ρ, m, R, x, er, S, h, t, tx⟩ := h
  refine Call_ (thn (hf.run pins s σ H (fun v H1 => ∃ B1 m1 q g, v = .ref q ∧ tab q = some g ∧ Same B B1 ∧ SRp X.K B1 H1 m1 ∧ Frm B H m B1 H1 m1 ∧ ga ρ m1 (fun us m2 => us.length = g.1 ∧ g.2 us m2 R x) x) I ⟨B, ρ, m, _, x, er, S, h, fun B1 d m1 u H1 s1 S1 f1 p1 q1 => ?_, tx⟩) fun u s1 ⟨v, H1, I1, r1, B1, m1, q, g, ev, hg, sm, S1, f1, q1⟩ => ?_) hev
  · cases d with
    | ref q =>
      obtain ⟨g, hg, q2⟩ := ok_iff.mp q1
      have eu : u = .ref q := by cases p1; rfl
      exact ⟨B1, m1, q, g, eu, hg, s1, S1, f1, q2⟩
    | _ => exact q1.elim
  · subst ev
    cases r1
    obtain ⟨fd, ps, F, hk, hb⟩ := ht q g hg
    refine PySem.W.callWith_K (h₀ := X.base) I.ok.mod.kin hk (thn (ha.run pos pins s1 σ H1 (fun vs H2 => spD X.K g.1 g.2 vs H2 Q (L2.WE W σ)) I1 ⟨B1, ρ, m1, _, x, er.mono sm, S1, q1, fun B2 ds m2 vs H2 s2 S2 f2 p2 q2 => sp_up (by rw [p2.length]; exact q2.1) p2 S2 q2.2 (t.step (sm.trans s2) (f1.trans f2)) (tx.step (sm.trans s2) (f1.trans f2)), tx.step sm f1⟩) fun us s2 ⟨vs, H2, I2, r, q⟩ => ⟨I2.kIn, ?_⟩) he hpl
    exact run_fnS (E := L2.WE W) F hr hb (L2N.passAt tk σ) I2 r q
theorem takesN0 {X : Cx} : L2N.Takes X W0 := fun _ _ x => by
  obtain ⟨_, _, _, _, _, _, _, _, _, _, _, _, _, _, _, _, z⟩ := x
  exact z.elim
theorem psd_never {st : Stmt} : PS X st (upS X.K W wNever) := PS.imp ps_never fun E σ H ⟨B, r, m, k, er, S, h, t⟩ => h
theorem pssd_never {sts : List Stmt} : PSs X sts (upS X.K W wNever) := PSs.imp pss_never fun E σ H ⟨B, r, m, k, er, S, h, t⟩ => h
theorem u65 {k : Nat} {A : Around} (hr : Room k A) : A.units + 65 < cLine := by have := hr.un; omega
theorem u64 {k : Nat} {A : Around} (hr : Room k A) : A.units + 64 < cLine := by have := hr.un; omega
theorem u1 {k : Nat} {A : Around} (hr : Room k A) : A.units + 1 < cLine := by have := hr.un; omega
theorem u65h {k : Nat} {A : Around} (hr : L2H.RoomH k A) : A.units + 65 < cLine := by have := hr.un; omega
theorem u64h {k : Nat} {A : Around} (hr : L2H.RoomH k A) : A.units + 64 < cLine := by have := hr.un; omega
theorem pd_gs {x s : Str} (h : ∃ t, X.mg x = some (.str s t)) (hg : Gl X x) (hd : (x == ("__debug__" : Str)) = false := by decide) : PE X (.Name x pos) (up X.K W (wC (.str s))) := by
  obtain ⟨t, h⟩ := h
  exact pd_c (pe_glob (v := .str s) hg h ⟨t, rfl⟩ hd) fun _ => .str s
theorem pd_gi {x : Str} {i : Int} (h : ∃ t, X.mg x = some (.int i t)) (hg : Gl X x) (hd : (x == ("__debug__" : Str)) = false := by decide) : PE X (.Name x pos) (up X.K W (wC (.int i))) := by
  obtain ⟨t, h⟩ := h
  exact pd_c (pe_glob (v := .int i) hg h ⟨t, rfl⟩ hd) fun _ => .int i
theorem pd_gt {x : Str} {ds : List D} (h : ∃ a, X.mg x = some (.ref a) ∧ ∀ B, Dp X.K B (.ref a) (.tup ds)) (hg : Gl X x) (hd : (x == ("__debug__" : Str)) = false := by decide) : PE X (.Name x pos) (up X.K W (wC (.tup ds))) := by
  obtain ⟨a, h, hp⟩ := h
  exact pd_c (pe_glob (v := .ref a) hg h rfl hd) hp
theorem pd_gr {x : Str} {a : Addr} (h : X.mg x = some (.ref a)) (hg : Gl X x) (hd : (x == ("__debug__" : Str)) = false := by decide) : PE X (.Name x pos) (up X.K W (wC (.ref a))) := pd_c (pe_glob (v := .ref a) hg h rfl hd) fun _ => .ref a
theorem pd_bty {x : Str} {n : String} (hm : X.mg x = none) (hv : bootBuiltins x = some (.type n)) (hg : Gl X x) (hn : x ≠ "__name__" := by decide) (hd : (x == ("__debug__" : Str)) = false := by decide) : PE X (.Name x pos) (up X.K W (wC (.ty n))) := pd_c (pe_bltn (v := .ty n) hg hm hv rfl hn hd) fun _ => .ty n
structure Fn (K : PySem.W.Frag) (mg : Str → Option Value) (x qual : Str) (st : Stmt) (ps : List Str) where
  f : Addr
  fd : FuncData
  F : Fun K x qual st f fd
  b : Binds K fd ps []
end
end DL
end
section
set_option maxHeartbeats 0
namespace DL
open PySem PySem.Spec PyProof.Rows L2
section
variable {X : Cx} {W : WX} {a b c o e : Expr} {fa fb fc : WE} {pos p apos cpos : Pos} {es : List Expr} {ga : WA} {K : PySem.W.Frag} {B H : Hp} {m : Store}
theorem first_one {s : Str} {c i : Nat} (h : s.cps.toList[i]? = some c) (hn : ∀ j, j < i → s.cps.toList[j]? ≠ some c) : ∃ rest, Builtin.Str.occurrences s ⟨#[c]⟩ 0 s.length 1 = i :: rest := by
  have hat : ∀ j, StrLaws.At s ⟨#[c]⟩ s.length j ↔ s.cps.toList[j]? = some c := fun j => StrLaws.subAt_one s c j
  rcases StrLaws.occ_head s ⟨#[c]⟩ 1 (Nat.le_refl 1) with ⟨_, h2⟩ | ⟨a, r, h1, h2, h3⟩
  · exact absurd ((hat i).mpr h) (h2 i)
  · have e : a = i := by
      rcases Nat.lt_trichotomy a i with z | z | z
      · exact absurd ((hat a).mp h2) (hn a z)
      · exact z
      · exact absurd ((hat i).mpr h) (h3 i z)
    subst e
    exact ⟨r, h1⟩
theorem sindex_ : MtD X "str.index" wSIndex := by
  refine ⟨_, mt_sindex, fun B u d us ds p ps H m R Q S h t => ?_⟩
  match d, ds, h with
  | .str s, [.str w], h =>
    obtain ⟨v, rfl, q⟩ := one_arg ps rfl
    cases p
    cases q
    obtain ⟨c, i, rfl, h1, h2, h3⟩ := h
    obtain ⟨rest, e⟩ := first_one h1 h2
    exact ⟨s, _, i, rest, rfl, rfl, e, eff_ret S t (.int _) h3⟩
theorem pd_fgt (ha : PE X a (up X.K W fa)) : PE X a (up X.K W (wFgt fa)) := PE.imp ha fun σ H Q h => by
  obtain ⟨B, ρ, m, R, x, er, S, h, t, tx⟩ := h
  refine ⟨B, ρ, m, _, x, er, S, h, fun B1 d m1 u H1 s1 S1 f1 p1 q1 => ?_, tx⟩
  obtain ⟨m2, sb, q⟩ := q1
  refine t B1 d m2 u H1 s1 (S1.sub sb) ⟨f1.keep, fun z ho ez nz => ?_, f1.bout⟩ p1 q
  cases e : m2 z with
  | none => rfl
  | some o => have y := sb z o e; rw [f1.out z ho ez nz] at y; cases y
theorem disp_up {ps : List (WE × WE)} {σ : L2.St} {ρ : Env} {x : XD} {Kd : List (DKey × D) → Store → Prop} {Q : VK} (S : SRp X.K B H m) (er : ERp X.K B σ ρ) (tx : ThX X.K B H m x fun C H' => W (.ref C) none σ H')
    (h : wPairs ps ρ m (fun us m1 => us.length ≤ 15 ∧ ok (keysD us) fun kvs => Kd kvs m1) x) (q : ∀ B' kvs gs m' H' z, Same B B' → SRp X.K B' H' m' → Frm B H m B' H' m' → m' z = none → H' z = some (.dK gs) → KRel X.K B' gs (mergeD [] kvs) → Kd kvs m' → Q (.ref z) H') :
    tDisp (ps.map fun q => (up X.K W q.1, up X.K W q.2)) σ H Q := by
  intro z nz
  obtain ⟨S1, f1⟩ := S.free (ho := .dK []) nz
  have hB : B z = none := by
    cases y : B z with
    | none => rfl
    | some o => rw [S.same _ _ y] at nz; cases nz
  have hm : m z = none := by
    cases y : m z with
    | none => rfl
    | some o => obtain ⟨_, ho', z1, _⟩ := S.obj _ _ y; rw [z1] at nz; cases nz
  refine pairs_up ps B _ m _ _ er S1 h (tx.step (Same.refl B) f1) fun B2 us m2 vs H2 s2 S2 f2 p2 q2 => ?_
  obtain ⟨hl2, q2⟩ := q2
  obtain ⟨kvs, h1, h2⟩ := ok_iff.mp q2
  obtain ⟨gs, e1, rel⟩ := keysD_v p2 kvs h1
  have hq : H2 z = some (.dK []) := f2.keep z _ upd_same hm
  have mq : m2 z = none := f2.out z _ upd_same hm
  have bq : B2 z = none := f2.bout z _ upd_same hm hB
  have hlen : gs.length ≤ 15 := by
    have := Paired.length p2
    rw [e1, List.length_map] at this
    omega
  refine ⟨hq, gs, e1, hlen, q B2 kvs _ m2 _ z s2 ⟨fun y o ey => ?_, fun y mo ey => ?_⟩ ⟨fun y ho ey ny => ?_, fun y ho ey ny => ?_, fun y ho ey ny by' => ?_⟩ mq upd_same (KRel.merge .nil rel) h2⟩
  · rw [upd_ne (ne_of_none ey bq)]; exact S2.same _ _ ey
  · obtain ⟨z1, ho, z2, z3⟩ := S2.obj y mo ey
    exact ⟨z1, ho, by rw [upd_ne (fun w => by subst w; rw [mq] at ey; cases ey)]; exact z2, z3⟩
  · have nzq : y ≠ z := ne_of_none ey nz
    rw [upd_ne nzq]
    exact f2.keep y ho (by rw [upd_ne nzq]; exact ey) ny
  · exact f2.out y ho (by rw [upd_ne (ne_of_none ey nz)]; exact ey) ny
  · exact f2.bout y ho (by rw [upd_ne (ne_of_none ey nz)]; exact ey) ny by'
theorem pd_dispget {keys : List (Option Expr)} {values : List Expr} {ps : List (WE × WE)} {dp : Pos} (hu : X.A.units + 1 < cLine) (h : PPd X W dp keys values ps) (hall : keys.all (·.isSome) = true) (hl : keys.length = values.length) (h0 : keys ≠ []) (h15 : keys.length ≤ 15) (hi : PE X b (up X.K W fb)) (hs : NoSl b) :
    PE X (.Subscript (.Dict keys values dp) b pos) (up X.K W (wDispGet ps fb)) := PE.imp (pe_dget hu (pe_disp h.run hall hl h0 h15) hi hs) fun σ H Q h => by
  obtain ⟨B, ρ, m, R, x, er, S, h, t, tx⟩ := h
  refine disp_up S er tx h fun B1 kvs gs m1 H1 z s1 S1 f1 nz hz rel q1 => ?_
  refine ⟨B1, ρ, m1, _, x, er.mono s1, S1, q1, fun B2 e m2 v H2 s2 S2 f2 p2 q2 => ?_, tx.step s1 f1⟩
  obtain ⟨k, h1, q3⟩ := ok_iff.mp q2
  obtain ⟨w, h2, q4⟩ := ok_iff.mp q3
  have hz2 : H2 z = some (.dK gs) := f2.keep z _ hz nz
  obtain ⟨u, e2, pw⟩ := (rel.val (k := k)).2 w h2
  have ev := keyD_v p2 h1
  subst ev
  refine ⟨z, u, rfl, ?_, t B2 _ m2 _ H2 (s1.trans s2) S2 (f1.trans f2) (pw.mono s2) q4⟩
  rw [← e2]
  exact DGet.k hz2
theorem pd_dispget2 {keys : List (Option Expr)} {values : List Expr} {ps : List (WE × WE)} {dp : Pos} (hu : X.A.units + 1 < cLine) (h : PPd X W dp keys values ps) (hall : keys.all (·.isSome) = true) (hl : keys.length = values.length) (h0 : keys ≠ []) (h15 : keys.length ≤ 15) (hi : PE X b (up X.K W fb)) (hc : PE X c (up X.K W fc))
    (mm : M2 X (.Dict keys values dp) "get" apos b c cpos) : PE X (.Call (.Attribute (.Dict keys values dp) "get" apos) [b, c] [] cpos) (up X.K W (wDispGet2 ps fb fc)) := PE.imp (pe_dget2 hu (pe_disp h.run hall hl h0 h15) hi hc mm) fun σ H Q h => by
  obtain ⟨B, ρ, m, R, x, er, S, h, t, tx⟩ := h
  refine disp_up S er tx h fun B1 kvs gs m1 H1 z s1 S1 f1 nz hz rel q1 => ?_
  refine ⟨z, rfl, .inl ⟨gs, .inl hz⟩, B1, ρ, m1, _, x, er.mono s1, S1, q1, fun B2 e m2 v H2 s2 S2 f2 p2 q2 => ?_, tx.step s1 f1⟩
  refine ⟨B2, ρ, m2, _, x, er.mono (s1.trans s2), S2, q2, fun B3 g m3 y H3 s3 S3 f3 p3 q3 => ?_, tx.step (s1.trans s2) (f1.trans f2)⟩
  obtain ⟨k, h1, q4⟩ := ok_iff.mp q3
  have hz3 : H3 z = some (.dK gs) := f3.keep z _ (f2.keep z _ hz nz) (f2.out z _ hz nz)
  have ev := keyD_v p2 h1
  subst ev
  refine ⟨_, DGet.k hz3, ?_⟩
  cases q : lookK (mergeD [] kvs) k with
  | none =>
    rw [(rel.val (k := k)).1 q]
    rw [q] at q4
    exact t B3 _ m3 _ H3 ((s1.trans s2).trans s3) S3 ((f1.trans f2).trans f3) p3 q4
  | some w =>
    obtain ⟨u, e2, pw⟩ := (rel.val (k := k)).2 w q
    rw [e2]
    rw [q] at q4
    exact t B3 _ m3 _ H3 ((s1.trans s2).trans s3) S3 ((f1.trans f2).trans f3) (pw.mono (s2.trans s3)) q4
end
end DL
end
section
set_option maxHeartbeats 0
namespace DL
open PySem PySem.Spec PyProof.Rows L2
def wRemD : WM := fun d us m R => match d, us with
  | .ref a, [y] => ∃ xs j z, m a = some (.lst xs) ∧ dOk y 59 = true ∧ dOks xs 59 = true ∧ xs[j]? = some z ∧ eqD z y = true ∧ (∀ k z', k < j → xs[k]? = some z' → eqD z' y = false) ∧ R .non (sup m a (.lst (xs.eraseIdx j)))
  | _, _ => False
section
variable {X : Cx} {K : PySem.W.Frag} {B H : Hp} {m : Store}
def rRemD (K : PySem.W.Frag) : V → List V → Hp → VK → Prop := fun x xs H Q => ∃ (a : Addr) (y : V) (d : PyData) (vs : List V) (ds : List PyData) (j : Nat) (z : PyData), x = V.ref a ∧ xs = [y] ∧ H a = some (.lst vs) ∧ L2.DpAll K H vs ds ∧ L2.Dp K H y d ∧
  SeqAt.shaped (.list ds) = true ∧ SeqAt.shaped d = true ∧ ds[j]? = some z ∧ PyData.eqv z d = true ∧ (∀ (m : Nat) (z' : PyData), m < j → ds[m]? = some z' → PyData.eqv z' d = false) ∧ Q .non (upd H a (.lst (vs.eraseIdx j)))
theorem mt_remD (hu : X.A.units + 65 < cLine) : MtM X "list.remove" (rRemD X.K) := by
  intro pins s σ H x xs v us Q I rx rxs h
  obtain ⟨a, y, d, vs, ds, j, z, rfl, rfl, hH, ha, hy, sl, sd, hz, hzj, hno, q⟩ := h
  cases rx
  obtain ⟨uy, rfl, ry⟩ := rxs.one
  obtain ⟨bs, r1⟩ := Dp.reads I d y uy hy ry
  have hxs : PyData.canLayAll0 ds = true := SeqAt.canLay_of_shaped sl
  have hroom : X.A.units + 1 + min (PyData.depthAll ds) d.depth < cLine := room_in_shaped sd hu
  obtain ⟨zl, its, n, rv, hl, ho⟩ := I.lstM hH
  obtain ⟨as, h4⟩ := Dp.readsAll I ds _ its ha rv
  have hn : its.length = ds.length := SeqAt.ReadsAll.length ds its as h4
  have hmap : its.map (SeqAt.readOf s.heap) = ds := SeqAt.readsAll_map ds its as hxs h4
  obtain ⟨hjd, _⟩ := List.getElem?_eq_some_iff.mp hz
  have hjl : j < its.length := by omega
  have hj : j < its.toArray.size := by simpa using hjl
  have at_ : ∀ (m : Nat) (hm : m < its.toArray.size) (z' : PyData), ds[m]? = some z' → SeqAt.readOf s.heap its.toArray[m] = z' := by
    intro m hm z' hz'
    have hml : m < its.length := by simpa using hm
    rw [← hmap, List.getElem?_map, List.getElem?_eq_getElem hml] at hz'
    have e1 : SeqAt.readOf s.heap its[m] = z' := Option.some.inj (show some (SeqAt.readOf s.heap its[m]) = some z' from hz')
    simpa using e1
  refine call_meets PySem.F.slot_list_remove ⟨_, ho, rfl⟩ PySem.F.entry_list_remove (PySem.F.args_list_remove_2 _ _)
    (SeqAt.list_removeAt a its.toArray n none _ uy (fun u => PyData.eqv (SeqAt.readOf s.heap u) d) j hj ?_ ?_ (by rw [List.size_toArray]; omega)) ⟨ho, SeqAt.items_eqAt (vs := its.toArray) (show ReadsAll s.heap its.toArray.toList ds as from h4) r1 hxs (SeqAt.canLay_of_shaped sd) hroom, ?_⟩
  · show PyData.eqv (SeqAt.readOf s.heap its.toArray[j]) d = true
    rw [at_ j hj z hz]
    exact hzj
  · intro m hm hmj
    have hmd : m < ds.length := by omega
    have hz' : ds[m]? = some ds[m] := List.getElem?_eq_getElem hmd
    show PyData.eqv (SeqAt.readOf s.heap its.toArray[m]) d = false
    rw [at_ m hm _ hz']
    exact hno m _ hmj hz'
  · have rr := rv.eraseIdx j
    refine ⟨.non, _, I.lset (its' := its.eraseIdx j) (t' := s.toks) hH ho ?_ rr ?_, rfl, q⟩
    · show its.toArray.eraseIdxIfInBounds j = (its.eraseIdx j).toArray
      rw [List.eraseIdxIfInBounds_toArray]
    · have z2 : (vs.eraseIdx j).length ≤ vs.length := List.length_eraseIdx_le vs j
      omega
theorem toPys_get : ∀ (xs : List D) (j : Nat), (toPys xs)[j]? = (xs[j]?).map toPy
  | [], j => by simp [toPys]
  | x :: xs, 0 => by simp [toPys]
  | x :: xs, j + 1 => by simp [toPys, toPys_get xs j]
theorem dOks_get : ∀ {xs : List D} {n j : Nat} {z : D}, dOks xs n = true → xs[j]? = some z → dOk z n = true
  | [], n, j, z, _, h => by simp at h
  | x :: xs, n, 0, z, h, e => by simp at e; subst e; exact ((Bool.and_eq_true _ _).mp h).1
  | x :: xs, n, j + 1, z, h, e => dOks_get ((Bool.and_eq_true _ _).mp h).2 (by simpa using e)
theorem remD_ (hu : X.A.units + 65 < cLine) : MtD X "list.remove" wRemD := by
  refine ⟨_, mt_remD hu, fun B u d us ds p ps H m R Q S h t => ?_⟩
  match d, ds, h with
  | .ref a, [y], h =>
    obtain ⟨v, rfl, q⟩ := one_arg ps rfl
    cases p
    obtain ⟨xs, j, z, h1, h2, h3, h4, h5, h6, h7⟩ := h
    obtain ⟨vs, e, r⟩ := S.list h1
    have hs : dOk (.lst xs) 60 = true := by rw [dOk]; exact h3
    refine ⟨a, v, toPy y, vs, toPys xs, j, toPy z, rfl, rfl, e, toPys_dp S.same r h3, toPy_dp S.same q h2, toPy_shaped (d := .lst xs) hs (by decide), toPy_shaped h2 (by decide), by rw [toPys_get, h4]; rfl, by rw [toPy_eq _ _ _ _ (dOks_get h3 h4) h2]; exact h5, fun k z' hk hz' => ?_, eff_put S t h1 (r.erase j) .non h7⟩
    rw [toPys_get] at hz'
    cases e2 : xs[k]? with
    | none => rw [e2] at hz'; cases hz'
    | some w =>
      rw [e2] at hz'
      cases hz'
      rw [toPy_eq _ _ _ _ (dOks_get h3 e2) h2]
      exact h6 k w hk e2
end
end DL
end
section
set_option maxHeartbeats 0
namespace DL
open PySem PySem.Spec PyProof.Rows L2
abbrev set0 (w : World) : Obj := { cls := .type "set", dict := none, data := .set #[] 0 (.fresh 0 0 (!w.params.followText "set-order")) }
abbrev lit0 (l : Addr) : Obj := { cls := .type "list_iterator", data := .fields #[.ref l, .int 0 0] }
section
variable {P : Program} {w : World} {A : Around} {E : Value → Shared → Prop} {s : Shared}
set_option maxHeartbeats 3200000 in
theorem set_made {l : Addr} {items : Array Value} {Q : Value → Shared → Prop} (T : Heap → Prop) (hh : A.handled = none) (hl : s.heap.IsList l items)
    (loop : ∀ (R : Result → Shared → Prop), ((s.heap.push (set0 w)).push (lit0 l)).IsList l items →
      (∀ s', Moved [s.heap.objs.size, s.heap.objs.size + 1] (fun g g' => g' = g) { s with heap := (s.heap.push (set0 w)).push (lit0 l) } s' → T s'.heap → R (.ok (.ret .none)) s') →
      codeAny (model P w) A.in1.in1 (.builtin "set.update.loop" ⟨[.ref s.heap.objs.size, .ref (s.heap.objs.size + 1)], []⟩) R { s with heap := (s.heap.push (set0 w)).push (lit0 l) })
    (h : ∀ (h' : Heap) (tk : Nat), T h' → (∀ b o, s.heap.get? b = some o → h'.get? b = some o) → Q (.ref s.heap.objs.size) { s with heap := h', toks := tk }) :
    wpAny (model P w) A (call (.type "set") [.ref l]) Q E s := by
  have cs := F.called_set
  obtain ⟨c, tl, hmro⟩ := cs.mro
  have hmade := cs.made; have hsub := cs.sub
  refine wpAny_call (codeAny_of_tree ?_); show wpAny _ _ (callAny (.type "set") _) _ _ _
  refine wpAny_pure ⟨Code.quiet_builtin _ (by decide +kernel), codeAny_builtin F.entry_type_call ?_⟩
  rw [Around.under_plain (weight_type_call_type "set" [.ref l] []) rfl]
  have h1 := cs.notType; have h2 := cs.canCreate; have hct := F.typeCall_set_1 (.ref l)
  repeat (any_goals (first | assumption | wp_step))
  refine codeAny_mono (code_set_led1 (.ref l) (E := E) (Q₁ := fun obj s₁ => obj = .ref s.heap.objs.size ∧ s₁ = { s with heap := s.heap.push (set0 w) }) ⟨rfl, rfl⟩) fun r s₁ hr => ?_
  cases r with
  | error e => exact hr
  | ok fl =>
    cases fl with
    | ret obj =>
      obtain ⟨rfl, rfl⟩ := hr
      have hS : (s.heap.push (set0 w)).get? s.heap.objs.size = some (set0 w) := Heap.get?_push_size _ rfl
      have hT : Shared.TypeIs { s with heap := s.heap.push (set0 w) } (.ref s.heap.objs.size) "set" := ⟨_, hS, rfl⟩
      have hli := cs.init.lookup; have hbi := cs.init.bind (.ref s.heap.objs.size)
      repeat (any_goals (first | assumption | wp_step))
      refine codeAny_mono (codeAny_call_builtin (R := wants (fun r s₂ => r = .none ∧ ∃ h' tk, s₂ = { s with heap := h', toks := tk } ∧ T h' ∧ ∀ b o, s.heap.get? b = some o → h'.get? b = some o) E) cs.init.plain F.entry_set_init (check_set_init_1 hT ?_)) fun r₂ s₂ hr₂ => ?_
      · have hl0 := hl
        obtain ⟨ol, hol, hcl, nl, hdl⟩ := hl
        obtain ⟨ocls, odict, odata, oslots⟩ := ol
        simp only at hcl hdl
        subst hcl; subst hdl
        have hol' : (s.heap.push (set0 w)).get? l = some { cls := .type "list", dict := odict, data := .seq items nl, slots := oslots } := Heap.get?_push_of_some _ hol
        have hsls := F.sub_list_set; have hslf := F.sub_list_frozenset
        have hne : (Value.type "list" == Value.type "dict") = false := by decide
        have hl1 : (s.heap.push (set0 w)).IsList l items := ⟨_, hol', rfl, nl, rfl⟩
        unfold Builtin.«set.__init__» noKeywords Builtin.Frozenset.updateFrom
        generalize hPI : pyIter = PI
        wp_walk
        subst hPI
        refine wpAny_pyIter_list hl1 ?_
        refine wpAny_bind (wpAny_runValue ?_)
        have hz1 : (s.heap.push (set0 w)).objs.size = s.heap.objs.size + 1 := Heap.size_push ..
        rw [hz1]
        refine loop _ (hl1.push _) fun s' hm ht => ?_
        obtain ⟨h', g2, d', tk', os'⟩ := s'
        have eg : g2 = s.gens := hm.gens
        have ed : d' = s.drawn := hm.drawn
        have eo : os' = s.os := hm.os
        subst eg; subst ed; subst eo
        refine wpAny_pure (show wpAny _ _ (ret Value.none) _ _ _ from wpAny_pure ⟨rfl, h', tk', rfl, ht, fun b o e => ?_⟩)
        have hb0 : b < s.heap.objs.size := Heap.lt_size e
        refine hm.heap b o (fun z => ?_) (Heap.get?_push_of_some _ (Heap.get?_push_of_some _ e))
        simp only [List.mem_cons, List.not_mem_nil, or_false] at z
        rcases z with z | z
        · rw [z] at hb0; exact Nat.lt_irrefl _ hb0
        · rw [z] at hb0; exact Nat.lt_irrefl _ (Nat.lt_of_succ_lt hb0)
      · cases r₂ with
        | error e => exact hr₂
        | ok fl₂ =>
          cases fl₂ with
          | ret r =>
            obtain ⟨rfl, h', tk, rfl, ht, hk'⟩ := hr₂
            repeat (any_goals (first | assumption | wp_step))
            exact h _ _ ht hk'
          | _ => exact hr₂.elim
    | _ => exact hr.elim
theorem set_ints {l : Addr} {items : Array Value} (ns : List Int) {Q : Value → Shared → Prop} (hh : A.handled = none) (hl : s.heap.IsList l items) (hit : IntsAre items.toList ns) (hb : ns.length + 1 < scanBound)
    (h : ∀ (h' : Heap) (tk c : Nat), SetR w h' s.heap.objs.size (fun j => decide (j ∈ ns)) c → (∀ b o, s.heap.get? b = some o → h'.get? b = some o) → Q (.ref s.heap.objs.size) { s with heap := h', toks := tk }) :
    wpAny (model P w) A (call (.type "set") [.ref l]) Q E s := by
  have hisz : items.size = ns.length := by
    have q := IntsAre.length hit
    rwa [Array.length_toList] at q
  have hz1 : (s.heap.push (set0 w)).objs.size = s.heap.objs.size + 1 := Heap.size_push ..
  have hlS : l < s.heap.objs.size := by obtain ⟨ol, hol, _⟩ := hl; exact Heap.lt_size hol
  refine set_made (T := fun h' => ∃ c, SetR w h' s.heap.objs.size (fun j => decide (j ∈ ns)) c) hh hl (fun R hl2 hR => ?_) fun h' tk ⟨c, hc⟩ hk => h h' tk c hc hk
  have hh3 : A.in1.in1.in1.handled = none := by simp [hh]
  refine set_update_ints ((Walks.list hh3 (s.heap.objs.size + 1) l (Nat.ne_of_lt (Nat.lt_succ_of_lt hlS)) items).toS) s.heap.objs.size ?_ ns hisz hb (fun i v hv => ?_) (items.size - 0) 0 _ (by omega) (Nat.zero_le _) ⟨⟨lit0 l, ?_, rfl, rfl⟩, hl2⟩ ⟨0, Nat.le_refl 0, setR_new_at ?_⟩ fun s' c hm _ hS => hR s' hm ⟨c, hS⟩
  · simp only [List.mem_cons, List.not_mem_nil, or_false, not_or]; exact ⟨Nat.ne_of_lt (Nat.lt_succ_self _), Nat.ne_of_gt hlS⟩
  · have hi : i < ns.length := by rw [← hisz]; exact (Array.getElem?_eq_some_iff.mp hv).1
    obtain ⟨t, e⟩ := IntsAre.int_at hit i v (by rw [Array.getElem?_toList]; exact hv)
    refine ⟨ns[i], t, List.getElem?_eq_getElem hi, ?_⟩
    rw [e, List.getD_eq_getElem?_getD, List.getElem?_eq_getElem hi]; rfl
  · rw [← hz1]; exact Heap.get?_push_size _ rfl
  · exact Heap.get?_push_of_some _ (Heap.get?_push_size _ rfl)
end
end DL
end
section
set_option maxHeartbeats 0
namespace DL
open PySem PySem.Spec PyProof.Rows L2
section
variable {P : Program} {w : World} {A : Around} {E : Value → Shared → Prop} {s : Shared}
theorem set_sorted {a : Addr} {es : Array (Int × Value)} {ep : Nat} {t : SetTable} {ltv : Value → Value → Bool} {Q : Value → Shared → Prop} (O : SrtO.Swo ltv) (hh : A.handled = none) (ha : SetAt s.heap a es ep t) (hf : t.fits es.size = true) (hb : es.size < scanBound) (hr : Ris t.place.toList) (hl : w.params.followText "set-order" = true ∨ t.led = true)
    (hS : ∀ (vs : List Value) (s1 : Shared) (q : Addr), vs.Perm (es.toList.map (·.2)) → 2 ≤ vs.length → s1.heap.get? q = some (seqObj "list" vs.toArray 0) → (∀ b o, s.heap.get? b = some o → b ≠ q ∧ s1.heap.get? b = some o) → SrtO.SortableO P w A.in1.in1 s1 q vs ltv)
    (hQ : ∀ (s' : Shared) (p : Addr) (out : List Value) (c : Nat), (∀ b o, s.heap.get? b = some o → s'.heap.get? b = some o) → s'.gens = s.gens → s'.os = s.os → s.heap.objs.size ≤ p → s'.heap.get? p = some (seqObj "list" out.toArray c) → SrtO.Srtd ltv out → out.Perm (es.toList.map (·.2)) → Q (.ref p) s') :
    wpAny (model P w) A (call (.builtin "sorted") [.ref a]) Q E s := by
  refine Calls.call_function_entry kind_sorted plain_sorted entry_sorted (args_sorted1 _) ?_
  unfold Builtin.«sorted»
  refine wpAny_bind (m := checkCount "sorted" 1 1 _) (wpAny_pure (wpAny_bind (collect_set (A := A.in1) hh ha hf hb hr hl fun s1 vs k1 hz g1 o1 pm => ?_)))
  have hvl : vs.length ≤ sizeLine := by
    rw [pm.length_eq, List.length_map, Array.length_toList]; exact fits_of_scanBound hb
  refine wpAny_bind (wpAny_newList ?_ hvl)
  have hoL : (s1.heap.push (seqObj "list" vs.toArray 0)).get? s1.heap.objs.size = some (seqObj "list" vs.toArray 0) := Heap.get?_push_size _ rfl
  have kp : ∀ b o, s.heap.get? b = some o → b ≠ s1.heap.objs.size ∧ (s1.heap.push (seqObj "list" vs.toArray 0)).get? b = some o := fun b o e =>
    ⟨Nat.ne_of_lt (Heap.lt_size (k1 b o e)), Heap.get?_push_of_some _ (k1 b o e)⟩
  refine wpAny_bind (wpAny_holding (wpAny_call_entry slot_list_sort ⟨_, hoL, rfl⟩ entry_list_sort (SrtO.list_sort_ord O hoL hvl (fun h2 => hS vs _ _ pm h2 hoL kp) fun out hs hb => ⟨_, rfl, ?_⟩) (args_list_sort _)))
  obtain ⟨c, hc⟩ := sortedHeap_at (vs := vs) (out := out.toArray) hoL
  refine wpAny_pure ⟨_, rfl, hQ _ s1.heap.objs.size out c (fun b u e => ?_) g1 o1 hz hc hs (hb.perm.trans pm)⟩
  have hlt := Heap.lt_size (k1 b u e)
  show (sortedHeap (s1.heap.push (seqObj "list" vs.toArray 0)) s1.heap.objs.size vs out.toArray).get? b = some u
  rw [sortedHeap_old (Nat.ne_of_lt hlt) (by rw [size_push']; exact Nat.lt_succ_of_lt hlt)]
  exact (kp b u e).2
theorem iv_re {v : Value} (h : ∃ k t, v = Value.int k t) : ∀ e : Int × Value, e.2 = v → keyOf e = SrtO.iv v := by
  obtain ⟨k, t, rfl⟩ := h
  intro e he
  unfold keyOf
  rw [he]; rfl
theorem sorted_setI {a : Addr} {S : Int → Bool} {n : Nat} {Q : Value → Shared → Prop} (R : SetR w s.heap a S n) (hh : A.handled = none)
    (hQ : ∀ (s' : Shared) (p : Addr) (out : List Value) (c : Nat) (ns : List Int), (∀ b o, s.heap.get? b = some o → s'.heap.get? b = some o) → s'.gens = s.gens → s'.os = s.os → s.heap.objs.size ≤ p →
      s'.heap.get? p = some (seqObj "list" out.toArray c) → IntsAre out ns → ns.Pairwise (· < ·) → (∀ k, k ∈ ns ↔ S k = true) → ns.length ≤ scanBound → Q (.ref p) s') :
    wpAny (model P w) A (call (.builtin "sorted") [.ref a]) Q E s := by
  obtain ⟨o, es, ep, t, ho, hex, hd, g, nd, hm, hb, hf, hn, hr, hl⟩ := R
  have hall : ∀ v ∈ es.toList.map (·.2), ∃ k t, v = Value.int k t := fun v hv => by
    obtain ⟨e, he, rfl⟩ := List.mem_map.mp hv
    obtain ⟨k, t, h1, _⟩ := g e he
    exact ⟨k, t, h1⟩
  have hI : ∀ vs : List Value, vs.Perm (es.toList.map (·.2)) → IntsAre vs (vs.map SrtO.iv) := fun vs pm => SrtO.ints_iv fun v hv => hall v (pm.mem_iff.mp hv)
  refine set_sorted SrtO.swo_int hh ⟨o, ho, hex.1, hd⟩ hf hb hr hl (fun vs s1 q pm h2 _ _ => SrtO.ints_sortable (hI vs pm) h2) fun s' p out c k g1 o1 hz hc hs pm => ?_
  have pk : (out.map SrtO.iv).Perm (es.toList.map keyOf) := by
    have q := pm.map SrtO.iv
    rw [List.map_map] at q
    have e : es.toList.map (SrtO.iv ∘ fun x => x.2) = es.toList.map keyOf := List.map_congr_left fun e he => (iv_re (hall e.2 (List.mem_map.mpr ⟨e, he, rfl⟩)) e rfl).symm
    rw [e] at q
    exact q
  refine hQ s' p out c (out.map SrtO.iv) k g1 o1 hz hc (hI out pm) (lt_of_le_nodup _ (SrtO.ints_out (hI out pm) hs (SrtO.Stb.refl _)).2.2 (pk.nodup_iff.mpr nd)) (fun j => by rw [pk.mem_iff, ← hm j]) ?_
  rw [pk.length_eq, List.length_map, Array.length_toList]; exact Nat.le_of_lt hb
end
section
variable {X : Cx}
def tSrtSetI (K : PySem.W.Frag) (ta : TE) : TE := fun σ H Q => ta σ H fun x H1 => ∃ (l : Addr) (ns : List Int), x = .ref l ∧ SqL K H1 l (ns.map V.int) ∧ ns.length + 1 < 4096 ∧
  ∀ (ns' : List Int) (p : Addr), ns'.Pairwise (· < ·) → (∀ k, k ∈ ns' ↔ k ∈ ns) → H1 p = none → Q (.ref p) (upd H1 p (.lst (ns'.map V.int)))
theorem pe_srtSetI {a : Expr} {ta : TE} {p p2 q pos : Pos} (hc : X.calm = true) (hg : Gl X "sorted") (hm : X.mg "sorted" = none) (hg2 : Gl X "set") (hm2 : X.mg "set" = none) (ha : PE X a ta)
    (na : starEach [a] X.env = (false, eval a X.env) :: starEach [] X.env := by rfl) : PE X (.Call (.Name "sorted" p) [.Call (.Name "set" p2) [a] [] q] [] pos) (tSrtSetI X.K ta) := by
  refine ⟨fun pins s σ H Q I h => ?_⟩
  refine Call_ (ld_blt I hg hm PyProof.Rows.boot_sorted (PyProof.Rows.callWith_builtin1 (PyProof.Rows.args_cons ?_ rfl) rfl rfl))
  refine Call_ (ld_blt I hg2 hm2 PyProof.Rows.boot_set (PyProof.Rows.callWith_type1 (PyProof.Rows.args_cons (thn (ha.run pins s σ H _ I h) fun v s1 ⟨x, H1, I1, r1, q1⟩ => PyProof.Rows.args_nil ?_) na) na rfl))
  obtain ⟨l, ns, rfl, hq, hl, q1⟩ := q1
  cases r1
  obtain ⟨its, r, pl, hz⟩ := I1.list hq
  refine set_ints ns (I1.ok.hd hc) pl.isList (by simpa using r.ints) (by unfold scanBound; exact hl) fun h' tk c hS hk => ?_
  refine PyProof.Rows.args_nil ?_
  refine sorted_setI (s := { s1 with heap := h', toks := tk }) hS (I1.ok.hd hc) fun s' p out c ns' k g o hp hg hi hs hm hl => ?_
  have hlen : (ns'.map V.int).length ≤ sizeLine := by rw [List.length_map, sizeLine_eq]; unfold scanBound at hl; omega
  have k2 : ∀ b u, s1.heap.get? b = some u → s'.heap.get? b = some u := fun b u e => k b u (hk b u e)
  have hp1 : s1.heap.objs.size ≤ p := by
    obtain ⟨o, _, _, _, ho, _⟩ := hS
    exact Nat.le_trans (Nat.le_of_lt (Heap.lt_size ho)) hp
  have hn : H1 p = none := I1.hok.fresh hp1
  have J : Inv X pins σ (upd H1 p (.lst (ns'.map V.int))) { s1 with heap := s'.heap, gens := s'.gens, drawn := s'.drawn, toks := s'.toks } :=
    I1.call (ch := []) (Un.laid k2 hp1 hn) (I1.hok.laid k2 hp1 ⟨hlen, out, c, vals_of_ints hi, hg⟩) (by rw [g]; exact I1.bare) (fun _ z => nomatch z)
  have e : s' = { s1 with heap := s'.heap, gens := s'.gens, drawn := s'.drawn, toks := s'.toks } := by
    cases s'; cases s1; cases o; rfl
  rw [e]
  refine ⟨.ref p, _, J, rfl, q1 ns' p hs (fun k => ?_) hn⟩
  rw [hm k, decide_eq_true_eq]
def wSrtSetI (b : Bool) (a : WE) : WE := fun r m R x => a r m (fun u m1 => ∃ ns : List Int, asL m1 u = some (ns.map .int) ∧ ns.length < 4000 ∧ ∀ ns' : List Int, ns'.Pairwise (· < ·) → (∀ k, k ∈ ns' ↔ k ∈ ns) → wNw b (ns'.map .int) m1 R) x
theorem pd_srtSetI {W : WX} {b : Bool} {a : Expr} {fa : WE} {p p2 q pos : Pos} (hc : X.calm = true) (hg : Gl X "sorted") (hm : X.mg "sorted" = none) (hg2 : Gl X "set") (hm2 : X.mg "set" = none) (ha : PE X a (up X.K W fa))
    (na : starEach [a] X.env = (false, eval a X.env) :: starEach [] X.env := by rfl) : PE X (.Call (.Name "sorted" p) [.Call (.Name "set" p2) [a] [] q] [] pos) (up X.K W (wSrtSetI b fa)) := PE.imp (pe_srtSetI hc hg hm hg2 hm2 ha na) fun σ H Q h => by
  obtain ⟨B, ρ, m, R, x, er, S, h, t, tx⟩ := h
  refine ⟨B, ρ, m, _, x, er, S, h, fun B1 d m1 u H1 s1 S1 f1 p1 q1 => ?_, tx⟩
  obtain ⟨ns, h1, hl, h2⟩ := q1
  obtain ⟨a, vs, rfl, ha, pa⟩ := seqL S1 p1 h1
  rw [ints_dp pa] at ha
  exact ⟨a, ns, rfl, .inl (.inl ha), by omega, fun ns' q z1 z2 nq => eff_nw S1 (t.step s1 f1) (dp_ints ns') (h2 ns' z1 z2) q nq⟩
end
end DL
end
section
set_option maxHeartbeats 0
namespace DL
open PySem PySem.Spec PyProof.Rows L2
theorem tup_mul1 (l : Addr) (items : Array Value) (n : Nat) (dd : Option Addr) (sl : Array (Option Value)) (x : Int) (u : Tok) (c0 : (decide (x < -(2 ^ 63)) || decide (x ≥ 2 ^ 63)) = false) (c1 : (items.isEmpty || x == 1) = true) :
    Meets (Builtin.«tuple.__mul__» ⟨[.ref l, .int x u], []⟩) (fun _ R s => s.heap.get? l = some { cls := .type "tuple", dict := dd, data := .seq items n, slots := sl } ∧ R (.ok (.ret (Value.ref l))) s) :=
  .of_wp fun prog w A R s h => by
    obtain ⟨hp, g, d, tk, os⟩ := s
    obtain ⟨hl, h⟩ := h
    have f1 := AutoSeq1.idx_int
    wp_walk using wpAny_loadPart' hl
    repeat (first
      | (refine wpAny_ite_false (decide_eq_false (by rw [c0]; exact Bool.false_ne_true)) ?_; wp_walk using wpAny_loadPart' hl)
      | (refine wpAny_ite_true (decide_eq_true (by rw [c1])) ?_; wp_walk using wpAny_loadPart' hl))
    exact ⟨_, rfl, h⟩
theorem tup_mul0 (l : Addr) (items : Array Value) (n : Nat) (dd : Option Addr) (sl : Array (Option Value)) (x : Int) (u : Tok) (c0 : (decide (x < -(2 ^ 63)) || decide (x ≥ 2 ^ 63)) = false) (c1 : (items.isEmpty || x == 1) = false) (c2 : (decide (x ≤ 0) || items.isEmpty) = true) :
    Meets (Builtin.«tuple.__mul__» ⟨[.ref l, .int x u], []⟩) (fun _ R s => s.heap.get? l = some { cls := .type "tuple", dict := dd, data := .seq items n, slots := sl } ∧ R (.ok (.ret (Value.ref s.heap.objs.size))) { s with heap := s.heap.push { cls := Value.type "tuple", data := Data.seq #[] }, toks := s.toks }) :=
  .of_wp fun prog w A R s h => by
    obtain ⟨hp, g, d, tk, os⟩ := s
    obtain ⟨hl, h⟩ := h
    have f1 := AutoSeq1.idx_int
    wp_walk using wpAny_loadPart' hl
    repeat (first
      | (refine wpAny_ite_false (decide_eq_false (by rw [c0]; exact Bool.false_ne_true)) ?_; wp_walk using wpAny_loadPart' hl)
      | (refine wpAny_ite_false (decide_eq_false (by rw [c1]; exact Bool.false_ne_true)) ?_; wp_walk using wpAny_loadPart' hl)
      | (refine wpAny_ite_true (decide_eq_true (by rw [c2])) ?_; wp_walk using wpAny_loadPart' hl))
    exact ⟨_, rfl, h⟩
def rMulT (K : PySem.W.Frag) : R2 := fun x y H Q => ∃ l k xs, x = .ref l ∧ y = .int k ∧ SqT K H l xs ∧ 0 ≤ k ∧ k ≤ 100000 ∧ xs.length ≤ 100 ∧ ((xs = [] ∨ k = 1) → Q (.ref l) H) ∧ (¬ (xs = [] ∨ k = 1) → ∀ p, H p = none → Q (.ref p) (upd H p (.tup (List.replicate k.toNat xs).flatten)))
section
variable {X : Cx}
theorem op_mulT : OpR X (binaryOp .Mult) (rMulT X.K) := by
  intro pins s σ H x y v u Q I rx ry h
  obtain ⟨l, k, xs, rfl, rfl, hT, h1, h2, hz, q1, q2⟩ := h
  cases rx
  obtain ⟨t, rfl⟩ := ry
  obtain ⟨its, r, ⟨⟨cls, dd, data, sl⟩, ho, hc, n, hd⟩, hs⟩ := I.tuple hT
  simp only at hc hd
  subst hc hd
  have hle : its.length = xs.length := r.length.symm
  have c0 : (decide (k < -(2 ^ 63)) || decide (k ≥ 2 ^ 63)) = false := by rw [decide_eq_false (by omega), decide_eq_false (by omega)]; rfl
  have he : its.toArray.isEmpty = decide (xs = []) := by
    cases its with
    | nil => simp at hle; simp [List.eq_nil_of_length_eq_zero hle.symm]
    | cons a b => cases xs with
      | nil => simp at hle
      | cons c d => simp
  have go : ∀ {R : Result → Shared → Prop} {F : Shared → Prop}, Meets (Builtin.«tuple.__mul__» ⟨[.ref l, .int k t], []⟩) (fun _ R s => s.heap.get? l = some { cls := .type "tuple", dict := dd, data := .seq its.toArray n, slots := sl } ∧ R (.ok (.ret (Value.ref l))) s) → True := fun _ => trivial
  by_cases hk : xs = [] ∨ k = 1
  · have c1 : (its.toArray.isEmpty || k == 1) = true := by rw [he]; rcases hk with e | e <;> simp [e]
    refine wpAny_binaryOp_repeat_ref (T := "tuple") (U := "int") (by decide) ⟨_, ho, rfl⟩ (fun s' => typeIs_int s' k t) noFill_tuple_mul F.fills_int_mul F.slot_int_rmul repeat_tuple F.slot_int_index.lookup
      (call_meets F.slot_int_rmul (typeIs_int s k t) F.entry_int_rmul (F.args_int_rmul_2 _ _) (int_rmul_tuple k t l its.toArray n dd sl)
        ⟨ho, rfl, ⟨_, ho, rfl⟩, call_meets F.slot_tuple_mul ⟨_, ho, rfl⟩ F.entry_tuple_mul (F.args_tuple_mul_2 _ _) (tup_mul1 l its.toArray n dd sl k t c0 c1) ⟨ho, ?_⟩⟩)
    exact ⟨.ref l, H, I, rfl, q1 hk⟩
  · have c1 : (its.toArray.isEmpty || k == 1) = false := by rw [he]; simp at hk; simp [hk]
    have hne : its.toArray.isEmpty = false := by rw [he]; simp at hk; simp [hk.1]
    have kz : k.toNat * xs.length ≤ 100000 * 100 := Nat.mul_le_mul (by omega) hz
    have hlay : ∀ a : Array Value, a = (List.replicate k.toNat its).flatten.toArray → EP X pins σ Q (.ref s.heap.objs.size) { s with heap := s.heap.push { cls := Value.type "tuple", data := Data.seq a }, toks := s.toks } := by
      rintro a rfl
      refine ⟨.ref s.heap.objs.size, _, I.laid (t' := s.toks) (o := .tup (List.replicate k.toNat xs).flatten) (fun b ob q => Heap.get?_push_of_some _ q) (Nat.le_refl _) ?_, rfl, q2 hk _ (I.hok.fresh (Nat.le_refl _))⟩
      exact ⟨by rw [PyProof.Rows.lm_len_rep_flat, sizeLine_eq]; omega, _, r.rep k.toNat, IsTup.new _ _⟩
    by_cases k0 : k = 0
    · have c2 : (decide (k ≤ 0) || its.toArray.isEmpty) = true := by simp [k0]
      refine wpAny_binaryOp_repeat_ref (T := "tuple") (U := "int") (by decide) ⟨_, ho, rfl⟩ (fun s' => typeIs_int s' k t) noFill_tuple_mul F.fills_int_mul F.slot_int_rmul repeat_tuple F.slot_int_index.lookup
        (call_meets F.slot_int_rmul (typeIs_int s k t) F.entry_int_rmul (F.args_int_rmul_2 _ _) (int_rmul_tuple k t l its.toArray n dd sl)
          ⟨ho, rfl, ⟨_, ho, rfl⟩, call_meets F.slot_tuple_mul ⟨_, ho, rfl⟩ F.entry_tuple_mul (F.args_tuple_mul_2 _ _) (tup_mul0 l its.toArray n dd sl k t c0 c1 c2) ⟨ho, ?_⟩⟩)
      exact hlay #[] (by rw [k0]; rfl)
    · have c2 : (decide (k ≤ 0) || its.toArray.isEmpty) = false := by rw [hne, Bool.or_false]; exact decide_eq_false (by omega)
      have hm : ((its.toArray.size : Nat) : Int) * k ≤ 10000000 := by
        rw [List.size_toArray, hle]
        have a1 : ((xs.length : Nat) : Int) * k ≤ 100 * k := Int.mul_le_mul_of_nonneg_right (by omega) (by omega)
        omega
      have c4 : Builtin.Tuple.tupleTooMany (((its.toArray.size : Nat) : Int) * k) = false := by
        unfold Builtin.Tuple.tupleTooMany; rw [sizeLine_eq]; exact decide_eq_false (by omega)
      refine wpAny_binaryOp_repeat_ref (T := "tuple") (U := "int") (by decide) ⟨_, ho, rfl⟩ (fun s' => typeIs_int s' k t) noFill_tuple_mul F.fills_int_mul F.slot_int_rmul repeat_tuple F.slot_int_index.lookup
        (call_meets F.slot_int_rmul (typeIs_int s k t) F.entry_int_rmul (F.args_int_rmul_2 _ _) (int_rmul_tuple k t l its.toArray n dd sl)
          ⟨ho, rfl, ⟨_, ho, rfl⟩, call_meets F.slot_tuple_mul ⟨_, ho, rfl⟩ F.entry_tuple_mul (F.args_tuple_mul_2 _ _) (tuple_mulW l its.toArray n dd sl k t c0 c1 c2 (by omega) c4 (by rw [size_rep, List.size_toArray, PyProof.Rows.lm_len_rep_flat, hle, sizeLine_eq]; omega)) ⟨ho, ?_⟩⟩)
      exact hlay _ (size_rep _ _)
theorem mulT_ : OpD X (binaryOp .Mult) wMulT := by
  refine ⟨_, op_mulT, fun B u v d e p q H m R Q S h t => ?_⟩
  cases p with
  | tup h1 h2 => cases q with
    | int k =>
      rename_i a vs ds
      obtain ⟨k0, k1, hl, hR⟩ := h
      have eq : h2.length = h2.length := rfl
      refine ⟨a, k, vs, rfl, rfl, sqT_mono S.same h1, k0, k1, by rw [h2.length]; exact hl, fun z => ?_, fun _ => eff_tup S t (h2.rep _) hR⟩
      have e1 : repD k.toNat ds = ds := by
        rcases z with z | z
        · subst z; cases h2; simp [repD]
        · subst z; simp [repD]
      rw [e1] at hR
      exact eff_ret S t (.tup h1 h2) hR
    | _ => exact h.elim
  | _ => exfalso; cases q <;> exact h
end
end DL
end
section
set_option maxHeartbeats 0
namespace DL
open PySem
structure Ad where
  xInkError : Addr
  xNoMachine : Addr
  xNoKeys : Addr
  xNoKey : Addr
  xNoPlace : Addr
  xNoGoal : Addr
  xNoStrikes : Addr
  xNoText : Addr
  xNoNumbers : Addr
  xTooWide : Addr
  xNothing : Addr
  cMachine : Addr
  cTypist : Addr
  cHand : Addr
  fn : String → Addr
def Ad.cls (A : Ad) : List Addr := [A.xNoMachine, A.xNoKeys, A.xNoKey, A.xNoPlace, A.xNoGoal, A.xNoStrikes, A.xNoText, A.xNoNumbers, A.xTooWide, A.xNothing]
structure AdOk (A : Ad) : Prop where
  nd : A.cls.Nodup
def tabE (A : Ad) (k : Nat) : D → Option Bool
  | .ref a => if a ∈ A.cls then some (decide (A.cls[k]? = some a)) else none
  | .ty n => if n = "ValueError" then some true else none
  | _ => none
def refD (k : Nat) : D := .tup [.str (PySem.Str.ofString "refused"), .int k]
def G_LETTERS : Str := PySem.Str.ofString "abcdefghijklmnopqrstuvwxyz"
def G_GREAT : Str := PySem.Str.ofString "ABCDEFGHIJKLMNOPQRSTUVWXYZ"
def G_FIGURES : Str := PySem.Str.ofString "0123456789"
def G_DEAD : Str := PySem.Str.ofString "'^~"
def G_SIGNS : Str := PySem.Str.ofString "abcdefghijklmnopqrstuvwxyz0123456789.,-'^~"
def wordD (s : String) : D := .str (PySem.Str.ofString s)
def G_MOVES : List D := ["blank", "half", "back", "tab", "return", "up", "down"].map wordD
def G_TURNS : List D := ["left", "right", "set", "clear", "all", "free", "ribbon", "caps"].map wordD
def G_COLOURS : List D := ["black", "red"].map wordD
structure ExG (K : PySem.W.Frag) (mg : Str → Option Value) (x : Str) (C : Addr) : Prop where
  g : mg x = some (.ref C)
def phL : FW := fun ds m R _ => ∃ ns : List Int, ds = [.scr ns] ∧ ns.length ≤ 63 ∧ m = (fun _ => none) ∧ ∀ m', R (.bl true) m'
def spT (K : PySem.W.Frag) : L2.Sp := fun vs H Q _ => ∃ (a : Addr) (ns : List Int), vs = [.ref a] ∧ L2.SqL K H a (ns.map L2.V.int) ∧ ns.length ≤ 63 ∧ ∀ H', Q (.bl true) H'
theorem sp_phL {K : PySem.W.Frag} {vs : List L2.V} {H : L2.Hp} {Q : L2.VK} {E : L2.XK} (h : spT K vs H Q E) : spD K 1 phL vs H Q E := by
  obtain ⟨a, ns, rfl, hs, hl, q⟩ := h
  refine ⟨H, [.scr ns], fun _ => none, fun d _ => d = .bl true, fun _ _ => False, rfl, .cons (.scr hs) .nil, ⟨fun _ _ e => e, fun _ _ e => nomatch e⟩, ⟨ns, rfl, hl, rfl, fun _ => rfl⟩, fun B' d m' v H' _ _ _ p e => ?_, fun _ _ _ _ _ _ _ z => z.elim⟩
  subst e
  cases p
  exact q H'
theorem cx_no {P : Program} {w : World} {H : L2.Hp} {s s' : Shared} {e : Value} (h : L2N.CX P w [] H s (fun _ _ _ => False) e s') : False := by
  obtain ⟨_, _, _, _, _, _, _, _, _, _, _, _, z⟩ := h
  exact z.elim
theorem tabE_ok {K : PySem.W.Frag} {A : Ad} {Dc : Addr} {k : Nat} (nd : A.cls.Nodup) (h : ∀ i a, A.cls[i]? = some a → PySem.W.kitOne K (.ref Dc) (.ref a) = some (decide (k = i))) (hv : PySem.W.kitOne K (.ref Dc) (.type "ValueError") = some true) : ∀ c v, tabE A k c = some v → ∃ u, clsVal c = some u ∧ PySem.W.kitOne K (.ref Dc) u = some v := by
  intro c v e
  cases c with
  | ref a =>
    simp only [tabE] at e
    split at e
    · rename_i hm
      obtain ⟨i, hi, ei⟩ := List.getElem_of_mem hm
      have e1 : A.cls[i]? = some a := by rw [List.getElem?_eq_getElem hi, ei]
      have h1 := h i a e1
      cases e
      refine ⟨_, rfl, ?_⟩
      rw [h1]
      congr 1
      by_cases hk : k = i
      · subst hk; rw [e1]; simp
      · have : A.cls[k]? ≠ some a := fun z => by
          have hl : k < A.cls.length := by
            rcases Nat.lt_or_ge k A.cls.length with y | y
            · exact y
            · rw [List.getElem?_eq_none y] at z; cases z
          exact hk ((List.getElem?_inj hl nd).mp (by rw [z, e1]))
        simp [hk, this]
    · cases e
  | ty n =>
    simp only [tabE] at e
    split at e
    · rename_i hn; subst hn; cases e; exact ⟨_, rfl, hv⟩
    · cases e
  | _ => cases e
theorem dp_words {K : PySem.W.Frag} {B : L2.Hp} : ∀ ws : List String, DpAll K B (ws.map fun s => L2.V.str (PySem.Str.ofString s)) (ws.map wordD)
  | [] => .nil
  | w :: ws => .cons (.str _) (dp_words ws)
end DL
end
section
set_option maxHeartbeats 0
namespace DL
open PySem
section
variable (r : Env) (m : Store) (R : KD) (x : XD) (k : SK)
@[simp] theorem e_var (i : Nat) : wVar i r m R x = ok (get r i) fun d => R d m := rfl
@[simp] theorem e_c (d : D) : wC d r m R x = R d m := rfl
@[simp] theorem e_op (w : W2) (a b : WE) : wOp w a b r m R x = a r m (fun u m1 => b r m1 (fun v m2 => w u v m2 R) x) x := rfl
@[simp] theorem e_un (w : W1) (a : WE) : wUn w a r m R x = a r m (fun u m1 => w u m1 R) x := rfl
@[simp] theorem e_nil (R : List D → Store → Prop) : wNil r m R x = R [] m := rfl
@[simp] theorem e_cons (a : WE) (b : WA) (R : List D → Store → Prop) : wCons a b r m R x = a r m (fun u m1 => b r m1 (fun us m2 => R (u :: us) m2) x) x := rfl
@[simp] theorem e_tup (a : WA) : wTup a r m R x = a r m (fun us m1 => us.length ≤ LIM ∧ R (.tup us) m1) x := rfl
@[simp] theorem e_lst (b : Bool) (a : WA) : wLst b a r m R x = a r m (fun us m1 => us.length ≤ LIM ∧ wNw b us m1 R) x := rfl
@[simp] theorem e_nwF (ds : List D) : wNw false ds m R = R (.lst ds) m := rfl
@[simp] theorem e_nwT (ds : List D) : wNw true ds m R = ∀ a, m a = none → R (.ref a) (sup m a (.lst ds)) := rfl
@[simp] theorem e_callB (w : WL) (a : WA) : wCallB w a r m R x = a r m (fun us m1 => w us m1 R) x := rfl
@[simp] theorem e_call (n : Nat) (f : FW) (a : WA) : wCall n f a r m R x = a r m (fun us m1 => us.length = n ∧ f us m1 R x) x := rfl
@[simp] theorem e_if (t : WT) (a b : WE) : wIf t a b r m R x = t r m (fun c m1 => if c = true then a r m1 R x else b r m1 R x) x := rfl
@[simp] theorem e_test (a : WE) (R : Bool → Store → Prop) : wTest a r m R x = a r m (fun u m1 => match u with | .bl b => R b m1 | _ => False) x := rfl
@[simp] theorem e_and (a b : WT) (R : Bool → Store → Prop) : wAnd a b r m R x = a r m (fun c m1 => if c = true then b r m1 R x else R false m1) x := rfl
@[simp] theorem e_or (a b : WT) (R : Bool → Store → Prop) : wOr a b r m R x = a r m (fun c m1 => if c = true then R true m1 else b r m1 R x) x := rfl
@[simp] theorem e_not (a : WT) (R : Bool → Store → Prop) : wNot a r m R x = a r m (fun c m1 => R (!c) m1) x := rfl
@[simp] theorem e_yes (R : Bool → Store → Prop) : wYes r m R x = R true m := rfl
@[simp] theorem e_notV (a : WE) : wNotV a r m R x = a r m (fun u m1 => match u with | .bl k => R (.bl (!k)) m1 | _ => False) x := rfl
@[simp] theorem e_andV (a b : WE) : wAndV a b r m R x = a r m (fun u m1 => match u with | .bl true => b r m1 R x | .bl false => R (.bl false) m1 | _ => False) x := rfl
@[simp] theorem e_orV (a b : WE) : wOrV a b r m R x = a r m (fun u m1 => match u with | .bl true => R (.bl true) m1 | .bl false => b r m1 R x | _ => False) x := rfl
@[simp] theorem e_chain (w w' : W2) (a b c : WE) : wChain w w' a b c r m R x = a r m (fun u m1 => b r m1 (fun v m2 => w u v m2 fun z m3 => match z with
  | .bl true => c r m3 (fun y m4 => w' v y m4 R) x
  | .bl false => R (.bl false) m3
  | _ => False) x) x := rfl
@[simp] theorem e_oNone (R : Option Int → Store → Prop) : oNone r m R x = R none m := rfl
@[simp] theorem e_oSome (a : WE) (R : Option Int → Store → Prop) : oSome a r m R x = a r m (fun u m1 => match u with | .int i => R (some i) m1 | _ => False) x := rfl
@[simp] theorem e_sl (w : WSl) (a : WE) (l h : WO) : wSl w a l h r m R x = a r m (fun u m1 => l r m1 (fun lo m2 => h r m2 (fun hi m3 => w u lo hi m3 R) x) x) x := rfl
@[simp] theorem e_mt (T : String) (w : WM) (o : WE) (a : WA) : wMt T w o a r m R x = o r m (fun u m1 => tyM T m1 u ∧ a r m1 (fun us m2 => w u us m2 R) x) x := rfl
@[simp] theorem e_lc (b : Bool) (vs : List Nat) (it : WI) (g : WG) (t : WT) (e : WE) : wLc b vs it g t e r m R x = it r m (fun ds G m1 => wLcL G vs g t e r ds [] m1 fun us m2 => wNw b us m2 R) x := rfl
@[simp] theorem e_seqI (a : WE) (K : List D → (Store → Prop) → Store → Prop) : iSeq a r m K x = a r m (fun u m1 => asI m1 u fun ds G => K ds G m1) x := rfl
@[simp] theorem e_frz (a : WE) : wFrz a r m R x = a r m (fun u m1 => ∃ b ds, u = .ref b ∧ m1 b = some (.lst ds) ∧ R (.lst ds) (sdel m1 b)) x := rfl
@[simp] theorem e_fgt (a : WE) : wFgt a r m R x = a r m (fun u m1 => ∃ m2, Sub m2 m1 ∧ R u m2) x := rfl
@[simp] theorem e_callV (tab : Addr → Option (Nat × FW)) (f : WE) (a : WA) : wCallV tab f a r m R x = f r m (fun u m1 => match u with
  | .ref q => ok (tab q) fun g => a r m1 (fun us m2 => us.length = g.1 ∧ g.2 us m2 R x) x
  | _ => False) x := rfl
@[simp] theorem e_pairs0 (K : List (D × D) → Store → Prop) : wPairs [] r m K x = K [] m := rfl
@[simp] theorem e_pairs (a b : WE) (t : List (WE × WE)) (K : List (D × D) → Store → Prop) : wPairs ((a, b) :: t) r m K x = a r m (fun u m1 => b r m1 (fun v m2 => wPairs t r m2 (fun ps m3 => K ((u, v) :: ps) m3) x) x) x := rfl
@[simp] theorem e_disp (ps : List (WE × WE)) : wDisp ps r m R x = wPairs ps r m (fun us m1 => us.length ≤ 15 ∧ ok (keysD us) fun kvs => ∀ a, m1 a = none → R (.ref a) (sup m1 a (.dct (mergeD [] kvs)))) x := rfl
@[simp] theorem e_dispget (ps : List (WE × WE)) (k : WE) : wDispGet ps k r m R x = wPairs ps r m (fun us m1 => us.length ≤ 15 ∧ ok (keysD us) fun kvs => k r m1 (fun q m2 => ok (keyD q) fun q => ok (lookK (mergeD [] kvs) q) fun v => R v m2) x) x := rfl
@[simp] theorem e_dispget2 (ps : List (WE × WE)) (k z : WE) : wDispGet2 ps k z r m R x = wPairs ps r m (fun us m1 => us.length ≤ 15 ∧ ok (keysD us) fun kvs => k r m1 (fun q m2 => z r m2 (fun y m3 => ok (keyD q) fun q => R ((lookK (mergeD [] kvs) q).getD y) m3) x) x) x := rfl
@[simp] theorem s_next : wNext r m k = k.nx r m := rfl
@[simp] theorem s_seq (s t : WS) : wSeq s t r m k = s r m { k with nx := fun r' m' => t r' m' k } := rfl
@[simp] theorem s_if (t : WT) (a b : WS) : wIfS t a b r m k = t r m (fun c m1 => if c = true then a r m1 k else b r m1 k) k.ex := rfl
@[simp] theorem s_ret (a : WE) : wRet a r m k = a r m k.rt k.ex := rfl
@[simp] theorem s_retN : wRetN r m k = k.rt .non m := rfl
@[simp] theorem s_exp (a : WE) : wExp a r m k = a r m (fun _ m1 => k.nx r m1) k.ex := rfl
@[simp] theorem s_set (i : Nat) (a : WE) : wSet i a r m k = a r m (fun u m1 => k.nx (put r i (some u)) m1) k.ex := rfl
@[simp] theorem s_asg (a : WE) (g : WG) : wAsg a g r m k = a r m (fun u m1 => g u r m1 k.nx) k.ex := rfl
@[simp] theorem s_raise (C : Addr) : wRaise C r m k = k.ex C m := rfl
@[simp] theorem s_par (i j : Nat) (a : WA) : wPar i j a r m k = a r m (fun us m1 => match us with | [u, v] => k.nx (put (put r i (some u)) j (some v)) m1 | _ => False) k.ex := rfl
@[simp] theorem s_for (it : WI) (g : WG) (b : WS) : wFor it g b r m k = it r m (fun ds G m1 => wForL G g b ds r m1 k) k.ex := rfl
@[simp] theorem s_try (wh : Addr → Option D) (s : WS) : wTry wh s r m k = s r m { k with ex := fun C m' => ok (wh C) fun d => k.rt d m' } := rfl
@[simp] theorem s_break : wBreak r m k = k.bk r m := rfl
@[simp] theorem s_dput (d q v : WE) : wDPut d q v r m k = v r m (fun y m1 => d r m1 (fun u m2 => q r m2 (fun q m3 => match u with
  | .ref a => ∃ kvs, m3 a = some (.dct kvs) ∧ kvs.length < LIM ∧ ok (keyD q) fun q => k.nx r (sup m3 a (.dct (putKD q y kvs)))
  | _ => False) k.ex) k.ex) k.ex := rfl
@[simp] theorem g_nm (i : Nat) (u : D) (K : Env → Store → Prop) : gNm i u r m K = K (put r i (some u)) m := rfl
@[simp] theorem g_tp (is : List Nat) (ds : List D) (K : Env → Store → Prop) : gTp is (.tup ds) r m K = (ds.length = is.length ∧ K (putAll r is ds) m) := rfl
@[simp] theorem g_ls (is : List Nat) (ds : List D) (K : Env → Store → Prop) : gLs is (.lst ds) r m K = (ds.length = is.length ∧ K (putAll r is ds) m) := rfl
end
@[simp] theorem end_nx (R : KD) (x : XD) : (endD R x).nx = fun _ m => R .non m := rfl
@[simp] theorem end_rt (R : KD) (x : XD) : (endD R x).rt = R := rfl
@[simp] theorem end_ex (R : KD) (x : XD) : (endD R x).ex = x := rfl
@[simp] theorem get0 (a : Option D) (r : Env) : get (a :: r) 0 = a := rfl
@[simp] theorem getS (a : Option D) (r : Env) (i : Nat) : get (a :: r) (i + 1) = get r i := rfl
@[simp] theorem put0 (a d : Option D) (r : Env) : put (a :: r) 0 d = d :: r := rfl
@[simp] theorem putS (a d : Option D) (r : Env) (i : Nat) : put (a :: r) (i + 1) d = a :: put r i d := rfl
@[simp] theorem putAll0 (r : Env) (ds : List D) : putAll r [] ds = r := by cases ds <;> rfl
@[simp] theorem putAllS (r : Env) (i : Nat) (is : List Nat) (d : D) (ds : List D) : putAll r (i :: is) (d :: ds) = putAll (put r i (some d)) is ds := rfl
@[simp] theorem wipe0 (r : Env) : wipeD r [] = r := rfl
@[simp] theorem wipeS (r : Env) (v : Nat) (vs : List Nat) : wipeD r (v :: vs) = put (wipeD r vs) v none := rfl
@[simp] theorem start0 (n : Nat) (ds : List D) : startD n ds = ds.map some ++ List.replicate (n - ds.length) none := rfl
@[simp] theorem ixA (i : Nat) (n : Nat) : ixL n (i : Int) = if i < n then some i else none := by
  unfold ixL
  rw [if_pos (Int.natCast_nonneg i)]
  by_cases h : i < n
  · rw [if_pos h, if_pos (by omega)]; simp
  · rw [if_neg h, if_neg (by omega)]
theorem lc_pure {G : Store → Prop} {vs : List Nat} {g : WG} {t : WT} {e : WE} {r : Env} {m : Store} (f : D → Option D) (hG : G m) : ∀ (ds acc : List D) (K : List D → Store → Prop), acc.length + ds.length ≤ LIM →
    (∀ d ∈ ds, ∀ (K1 : KD) (K0 : Store → Prop), (match f d with | some u => K1 u m | none => K0 m) → g d (wipeD r vs) m fun r' m' => t r' m' (fun c m1 => if c = true then e r' m1 K1 (fun _ _ => False) else K0 m1) (fun _ _ => False)) →
    K (acc ++ ds.filterMap f) m → wLcL G vs g t e r ds acc m K
  | [], acc, K, _, _, q => ⟨hG, by simpa using q⟩
  | d :: ds, acc, K, hl, h, q => by
    refine ⟨hG, ?_⟩
    simp only [List.length_cons] at hl
    refine h d List.mem_cons_self (fun u m2 => acc.length < LIM ∧ wLcL G vs g t e r ds (acc ++ [u]) m2 K) (fun m1 => wLcL G vs g t e r ds acc m1 K) ?_
    have ih := fun acc' hl' => lc_pure f hG ds acc' K hl' (fun d hd => h d (List.mem_cons_of_mem _ hd))
    cases hf : f d with
    | none => exact ih acc (by omega) (by simpa [hf] using q)
    | some u => exact ⟨by omega, ih (acc ++ [u]) (by simp; omega) (by simpa [hf] using q)⟩
theorem lc_map {α : Type} {G : Store → Prop} {vs : List Nat} {i : Nat} {e : WE} {r : Env} {m : Store} (f g : α → D) (hG : G m) : ∀ (xs : List α) (acc : List D) (K : List D → Store → Prop), acc.length + xs.length ≤ LIM →
    (∀ a ∈ xs, ∀ K1 : KD, K1 (g a) m → e (put (wipeD r vs) i (some (f a))) m K1 (fun _ _ => False)) → K (acc ++ xs.map g) m → wLcL G vs (gNm i) wYes e r (xs.map f) acc m K
  | [], acc, K, _, _, q => ⟨hG, by simpa using q⟩
  | d :: ds, acc, K, hl, h, q => by
    simp only [List.length_cons] at hl
    refine ⟨hG, h d List.mem_cons_self _ ⟨by omega, lc_map f g hG ds (acc ++ [g d]) K (by simp; omega) (fun a ha => h a (List.mem_cons_of_mem _ ha)) (by simpa using q)⟩⟩
theorem lc_filter {α : Type} {G : Store → Prop} {vs : List Nat} {i : Nat} {t : WT} {r : Env} {m : Store} (f : α → D) (p : α → Bool) (hG : G m) (hi : ∀ d, get (put (wipeD r vs) i (some d)) i = some d) : ∀ (xs : List α) (acc : List D) (K : List D → Store → Prop), acc.length + xs.length ≤ LIM →
    (∀ a ∈ xs, ∀ K2 : Bool → Store → Prop, K2 (p a) m → t (put (wipeD r vs) i (some (f a))) m K2 (fun _ _ => False)) → K (acc ++ (xs.filter p).map f) m → wLcL G vs (gNm i) t (wVar i) r (xs.map f) acc m K
  | [], acc, K, _, _, q => ⟨hG, by simpa using q⟩
  | d :: ds, acc, K, hl, h, q => by
    simp only [List.length_cons] at hl
    refine ⟨hG, h d List.mem_cons_self _ ?_⟩
    have ih := fun acc' hl' => lc_filter f p hG hi ds acc' K hl' (fun a ha => h a (List.mem_cons_of_mem _ ha))
    cases hp : p d with
    | false =>
      rw [if_neg (by decide)]
      exact ih acc (by omega) (by simpa [hp] using q)
    | true =>
      rw [if_pos rfl]
      simp only [e_var, hi, ok_some]
      exact ⟨by omega, ih (acc ++ [f d]) (by simp; omega) (by simpa [hp] using q)⟩
theorem all_lst {bs : List Bool} {m : Store} {R : KD} (h : R (.bl (bs.all id)) m) : wAll [.lst (bs.map .bl)] m R := ⟨bs, rfl, h⟩
theorem any_lst {bs : List Bool} {m : Store} {R : KD} (h : R (.bl (bs.any id)) m) : wAny [.lst (bs.map .bl)] m R := ⟨bs, rfl, h⟩
theorem lc_inv {G : Store → Prop} {vs : List Nat} {g : WG} {t : WT} {e : WE} {r : Env} (I : List D → List D → Store → Prop) : ∀ (ds acc : List D) (m : Store) (K : List D → Store → Prop), I ds acc m →
    (∀ d ds acc m, I (d :: ds) acc m → ∀ (P : List D → Store → Prop), (∀ acc' m', I ds acc' m' → P acc' m') → G m ∧ g d (wipeD r vs) m fun r' m' => t r' m' (fun c m1 => if c = true then e r' m1 (fun u m2 => acc.length < LIM ∧ P (acc ++ [u]) m2) (fun _ _ => False) else P acc m1) (fun _ _ => False)) →
    (∀ acc m, I [] acc m → G m ∧ K acc m) → wLcL G vs g t e r ds acc m K
  | [], acc, m, K, h, _, q => q acc m h
  | d :: ds, acc, m, K, h, hs, q => hs d ds acc m h (fun acc m => wLcL G vs g t e r ds acc m K) fun acc' m' h' => lc_inv I ds acc' m' K h' hs q
theorem for_inv {G : Store → Prop} {g : WG} {b : WS} {k : SK} (I : List D → Env → Store → Prop) : ∀ (ds : List D) (r : Env) (m : Store), I ds r m →
    (∀ d ds r m, I (d :: ds) r m → ∀ (P : Env → Store → Prop), (∀ r' m', I ds r' m' → P r' m') → G m ∧ g d r m fun r' m' => b r' m' { k with nx := P, ct := P, bk := k.nx }) →
    (∀ r m, I [] r m → G m ∧ k.nx r m) → wForL G g b ds r m k
  | [], r, m, h, _, q => q r m h
  | d :: ds, r, m, h, hs, q => hs d ds r m h (fun r m => wForL G g b ds r m k) fun r' m' h' => for_inv I ds r' m' h' hs q
@[simp] theorem so_inj {a b : String} : PySem.Str.ofString a = PySem.Str.ofString b ↔ a = b := by
  refine ⟨fun h => ?_, fun h => by rw [h]⟩
  rw [PySem.Str.ofString_eq_toList, PySem.Str.ofString_eq_toList] at h
  have h1 : (a.toList.map Char.toNat).toArray = (b.toList.map Char.toNat).toArray := congrArg PySem.Str.cps h
  have h2 : a.toList.map Char.toNat = b.toList.map Char.toNat := by simpa using h1
  have h3 : a.toList = b.toList := List.map_inj_right (f := Char.toNat) (fun x y e => Char.toNat_inj.mp e) |>.mp h2
  exact String.toList_inj.mp h3
abbrev ch (c : Nat) : D := .str ⟨#[c]⟩
@[simp] theorem so_sp : PySem.Str.ofString " " = ⟨#[32]⟩ := by decide +kernel
@[simp] theorem so_A : PySem.Str.ofString "A" = ⟨#[65]⟩ := by decide +kernel
@[simp] theorem so_Z : PySem.Str.ofString "Z" = ⟨#[90]⟩ := by decide +kernel
@[simp] theorem so_q : PySem.Str.ofString "'" = ⟨#[39]⟩ := by decide +kernel
@[simp] theorem so_r : PySem.Str.ofString "^" = ⟨#[94]⟩ := by decide +kernel
@[simp] theorem so_t : PySem.Str.ofString "~" = ⟨#[126]⟩ := by decide +kernel
@[simp] theorem so_d : PySem.Str.ofString "." = ⟨#[46]⟩ := by decide +kernel
@[simp] theorem so_0 : PySem.Str.ofString "0" = ⟨#[48]⟩ := by decide +kernel
@[simp] theorem so_a : PySem.Str.ofString "a" = ⟨#[97]⟩ := by decide +kernel
@[simp] theorem so_b : PySem.Str.ofString "b" = ⟨#[98]⟩ := by decide +kernel
@[simp] theorem so_e : PySem.Str.ofString "" = ⟨#[]⟩ := by decide +kernel
end DL
end
section
set_option maxHeartbeats 0
namespace DL
open PySem
def deads : List (List Nat) := [[], [39], [94], [126], [39, 94], [39, 126], [94, 126], [39, 94, 126]]
def machD (c : Int) (dead : List Nat) (dn : Int) : D := .tup [.int c, .tup (dead.map ch), .int dn]
structure MOk (c : Int) (dead : List Nat) (dn : Int) : Prop where
  lo : 8 ≤ c
  hi : c ≤ 40
  de : dead ∈ deads
  d2 : 2 ≤ dn
  d4 : dn ≤ 4
@[simp] theorem mach0 (c : Int) (dead : List Nat) (dn : Int) (m : Store) (R : KD) : wIx (machD c dead dn) (.int 0) m R = R (.int c) m := rfl
@[simp] theorem mach1 (c : Int) (dead : List Nat) (dn : Int) (m : Store) (R : KD) : wIx (machD c dead dn) (.int 1) m R = R (.tup (dead.map ch)) m := rfl
@[simp] theorem mach2 (c : Int) (dead : List Nat) (dn : Int) (m : Store) (R : KD) : wIx (machD c dead dn) (.int 2) m R = R (.int dn) m := rfl
@[simp] theorem lt1 (a b : Nat) : ([a] < [b]) ↔ a < b := by simp [List.cons_lt_cons_iff]
mutual
def szOk : D → Bool
  | .str s => decide (s.length ≤ LIM)
  | .tup xs => decide (xs.length ≤ LIM) && szOks xs
  | .lst xs => decide (xs.length ≤ LIM) && szOks xs
  | _ => true
def szOks : List D → Bool
  | [] => true
  | x :: xs => szOk x && szOks xs
end
def arg (m : Store) (d : D) : Prop := (dOk d 60 = true ∧ szOk d = true) ∨ ∃ a kvs, d = .ref a ∧ m a = some (.dct kvs)
def wholeB (d : D) (lo hi : Int) : Bool := match d with | .int i => decide (lo ≤ i) && decide (i ≤ hi) | _ => false
def ph_is_whole (A : Ad) : FW := fun ds m R _ => ∃ d lo hi, ds = [d, .int lo, .int hi] ∧ (tyN m d).isSome = true ∧ R (.bl (wholeB d lo hi)) m
def oneOfB (d : D) (s : Str) : Bool := match d with
  | .str t => match t.cps.toList with | [c] => decide (c ∈ s.cps.toList) | _ => false
  | _ => false
def ph_is_one_of (A : Ad) : FW := fun ds m R _ => ∃ d s, ds = [d, .str s] ∧ (tyN m d).isSome = true ∧ (∀ t, d = .str t → t.length ≤ LIM) ∧ R (.bl (oneOfB d s)) m
def rise {α : Type} (lt : α → α → Bool) : List α → Bool
  | a :: b :: r => lt a b && rise lt (b :: r)
  | _ => true
def ph_is_rising (A : Ad) : FW := fun ds m R _ => (∃ ns : List Int, ds = [.tup (ns.map .int)] ∧ ns.length ≤ LIM ∧ R (.bl (rise (fun a b => decide (a < b)) ns)) m) ∨ (∃ ns : List Nat, ds = [.tup (ns.map ch)] ∧ ns.length ≤ LIM ∧ R (.bl (rise (fun a b => decide (a < b)) ns)) m)
def sgn : D → Nat
  | .str s => s.cps.toList.headD 0
  | _ => 0
def machB : D → Bool
  | .tup [a, .tup xs, b] => wholeB a 8 40 && xs.all (fun d => oneOfB d G_DEAD) && rise (fun a b => decide (a < b)) (xs.map sgn) && wholeB b 2 4
  | _ => false
def inMach (A : Ad) (m : Store) (d : D) (x : XD) (K : Int → List Nat → Int → Prop) : Prop := arg m d ∧ (machB d = false → x A.xNoMachine m) ∧ ∀ c dead dn, d = machD c dead dn → MOk c dead dn → K c dead dn
theorem inMach.imp {A : Ad} {m : Store} {d : D} {x : XD} {K K' : Int → List Nat → Int → Prop} (h : inMach A m d x K) (f : ∀ c dead dn, d = machD c dead dn → MOk c dead dn → K c dead dn → K' c dead dn) : inMach A m d x K' := ⟨h.1, h.2.1, fun c dead dn e hM => f c dead dn e hM (h.2.2 c dead dn e hM)⟩
def ph_is_machine (A : Ad) : FW := fun ds m R _ => ∃ d, ds = [d] ∧ arg m d ∧ R (.bl (machB d)) m
def ph_need_machine (A : Ad) : FW := fun ds m R x => ∃ d, ds = [d] ∧ inMach A m d x fun _ _ _ => R .non m
def ph_end_of (A : Ad) : FW := fun ds m R _ => ∃ c dead dn, ds = [machD c dead dn] ∧ MOk c dead dn ∧ R (.int (2 * c)) m
def marB (e : Int) (l r : D) : Bool := wholeB l 0 e && wholeB r 0 e && (match l, r with | .int a, .int b => decide (a < b) | _, _ => false)
def ph_need_margins (A : Ad) : FW := fun ds m R x => ∃ c dead dn l r, ds = [machD c dead dn, l, r] ∧ MOk c dead dn ∧ (tyN m l).isSome = true ∧ (tyN m r).isSome = true ∧ if marB (2 * c) l r = true then R .non m else x A.xNoPlace m
def k1 (s : String) : D := .tup [wordD s]
def kS (c : Nat) : D := .tup [wordD "sign", ch c]
def keyOf (c : Nat) : List D := if c = 32 then [k1 "blank"] else if 65 ≤ c ∧ c ≤ 90 then [k1 "caps", kS (c + 32), k1 "caps"] else [kS c]
def keysOf (cs : List Nat) : List D := cs.flatMap keyOf
def ph_key_for (A : Ad) : FW := fun ds m R _ => ∃ c, ds = [ch c] ∧ R (kS (loC c)) m
def ph_keys_of (A : Ad) : FW := fun ds m R _ => ∃ s, ds = [.str s] ∧ s.length ≤ 1000 ∧ ∀ a, m a = none → R (.ref a) (sup m a (.lst (keysOf s.cps.toList)))
def onD (n : Int) : List D := List.replicate (n / 2).toNat (k1 "blank") ++ List.replicate (n % 2).toNat (k1 "half")
def ph_on (A : Ad) : FW := fun ds m R _ => ∃ n : Int, ds = [.int n] ∧ 0 ≤ n ∧ n ≤ 1000 ∧ R (.lst (onD n)) m
def lineB (dead : List Nat) (d : D) (more : Str) : Bool := match d with
  | .str s => decide (1 ≤ s.length) && decide (s.length ≤ 40) && s.cps.toList.all fun c => decide (c ∈ (G_SIGNS ++ G_GREAT ++ more).cps.toList) && decide (c ∉ dead)
  | _ => false
def ph_is_line (A : Ad) : FW := fun ds m R _ => ∃ c dead dn d more, ds = [machD c dead dn, d, .str more] ∧ (tyN m d).isSome = true ∧ (∀ t, d = .str t → t.length ≤ LIM) ∧ more.length ≤ 100 ∧ R (.bl (lineB dead d more)) m
def flushO (half : Bool) (c : Int) (dead : List Nat) (l r t : D) : Nat ⊕ List D :=
  if marB (2 * c) l r = true then
    if lineB dead t ⟨#[32]⟩ = true then
      match l, r, t with
      | .int a, .int b, .str s => if b - a - 2 * (s.length : Int) < 0 then .inl 8 else .inr (onD (if half then (b - a - 2 * (s.length : Int)) / 2 else b - a - 2 * (s.length : Int)) ++ keysOf s.cps.toList)
      | _, _, _ => .inl 3
    else .inl 6
  else .inl 3
def phFl (half : Bool) (A : Ad) : FW := fun ds m R x => ∃ dm l r t, ds = [dm, l, r, t] ∧ inMach A m dm x fun c dead dn => (tyN m l).isSome = true ∧ (tyN m r).isSome = true ∧ (tyN m t).isSome = true ∧ (∀ s, t = .str s → s.length ≤ LIM) ∧
  match flushO half c dead l r t with
  | .inl k => ok (A.cls[k]?) fun C => x C m
  | .inr ks => R (.tup ks) m
def ph_flush (A : Ad) : FW := phFl false A
def ph_centred (A : Ad) : FW := phFl true A
def ph__law_cell_at (A : Ad) : FW := fun ds m R _ => ∃ ns k, ds = [.scr ns, .int k] ∧ 0 ≤ k ∧ ∀ v : Int, R (.int v) m
def ph__law_mixed (A : Ad) : FW := fun ds m R _ => ∃ ns k n, ds = [.scr ns, .int k, .int n] ∧ 0 ≤ k ∧ 0 < n ∧ ∀ v : Int, 0 ≤ v → v < n → R (.int v) m
def ph__law_draw (A : Ad) : FW := fun ds m R _ => ∃ ns t n us, ds = [.scr ns, .ref t, .int n] ∧ 0 < n ∧ m t = some (.lst us) ∧ us.length < LIM ∧ ∀ (v : Int) us', 0 ≤ v → v < n → us'.length = us.length + 1 → R (.int v) (sup m t (.lst us'))
def ph__law_pick (A : Ad) : FW := fun ds m R _ => ∃ ns t d us, ds = [.scr ns, .ref t, d] ∧ m t = some (.lst us) ∧ us.length < LIM ∧ match d with
  | .str s => s.length ≤ LIM ∧ 0 < s.length ∧ ∀ c us', c ∈ s.cps.toList → us'.length = us.length + 1 → R (ch c) (sup m t (.lst us'))
  | .tup xs => xs ≠ [] ∧ ∀ v us', v ∈ xs → us'.length = us.length + 1 → R v (sup m t (.lst us'))
  | .lst xs => xs ≠ [] ∧ ∀ v us', v ∈ xs → us'.length = us.length + 1 → R v (sup m t (.lst us'))
  | .ref a => a ≠ t ∧ ∃ xs, m a = some (.lst xs) ∧ xs ≠ [] ∧ ∀ v us', v ∈ xs → us'.length = us.length + 1 → R v (sup m t (.lst us'))
  | _ => False
def ph__law_machine (A : Ad) : FW := fun ds m R _ => ∃ ns t us, ds = [.scr ns, .ref t] ∧ m t = some (.lst us) ∧ us.length + 5 < LIM ∧ ∀ c dead dn us', MOk c dead dn → us'.length = us.length + 5 → R (machD c dead dn) (sup m t (.lst us'))
structure Mk where
  n : Int
  row : Int
  place : Int
  sign : Nat
  red : Bool
deriving DecidableEq
def colD (b : Bool) : D := if b = true then wordD "red" else wordD "black"
def mkD (k : Mk) : D := .tup [.int k.n, .int k.row, .int k.place, ch k.sign, colD k.red]
structure LW where
  c : Int
  dead : List Nat
  dn : Int
  row : Int
  place : Int
  low : Int
  high : Int
  tabs : List Int
  red : Bool
  caps : Bool
  free : Bool
  marks : List Mk
  rings : List Int
  many : Int
def key (s : String) : DKey := .inr (PySem.Str.ofString s)
def wkD (s : LW) (ta ma ra : Addr) : List (DKey × D) :=
  [(key "machine", machD s.c s.dead s.dn), (key "end", .int (2 * s.c)), (key "row", .int s.row), (key "place", .int s.place), (key "low", .int s.low), (key "high", .int s.high), (key "tabs", .ref ta), (key "red", .bl s.red), (key "caps", .bl s.caps), (key "free", .bl s.free), (key "marks", .ref ma), (key "rings", .ref ra), (key "many", .int s.many)]
structure WkAt (m0 : Store) (w : Addr) (m : Store) (s : LW) (ta ma ra : Addr) : Prop where
  sub : Sub m0 m
  nw : m0 w = none
  nt : m0 ta = none
  nm : m0 ma = none
  nr : m0 ra = none
  hw : m w = some (.dct (wkD s ta ma ra))
  ht : m ta = some (.lst (s.tabs.map .int))
  hm : m ma = some (.lst (s.marks.map mkD))
  hr : m ra = some (.lst (s.rings.map .int))
  tm : ta ≠ ma
  tr : ta ≠ ra
  mr : ma ≠ ra
def Wk (m0 : Store) (w : Addr) (m : Store) (s : LW) : Prop := ∃ ta ma ra, WkAt m0 w m s ta ma ra
def newL (c : Int) (dead : List Nat) (dn : Int) (tabs : List Int) : LW := ⟨c, dead, dn, 0, 0, 0, 2 * c, tabs, false, false, false, [], [], 0⟩
def LW.small (s : LW) (n : Nat) : Prop := s.tabs.length ≤ n ∧ s.marks.length ≤ n ∧ s.rings.length ≤ n
def ph__law_new (A : Ad) : FW := fun ds m R _ => ∃ c dead dn tabs, ds = [machD c dead dn, .tup (tabs.map .int)] ∧ MOk c dead dn ∧ ∀ w m', Wk m w m' (newL c dead dn tabs) → R (.ref w) m'
def shutL (s : LW) (p : Int) : Bool := decide (2 * s.c < p) || (!s.free && decide (s.high < p))
def goL (s : LW) (p : Int) : LW := { s with place := p, rings := if decide (s.place < s.high - 10) && decide (s.high - 10 ≤ p) then s.rings ++ [s.many] else s.rings }
def movedD (row p : Int) : D := .tup [wordD "moved", .int row, .int p]
def lockD : D := .tup [wordD "locked"]
def doneD : D := .tup [wordD "done"]
def ph__law_shut (A : Ad) : FW := fun ds m R _ => ∃ w p m0 s, ds = [.ref w, .int p] ∧ Wk m0 w m s ∧ R (.bl (shutL s p)) m
def ph__law_go (A : Ad) : FW := fun ds m R _ => ∃ w p m0 s, ds = [.ref w, .int p] ∧ Wk m0 w m s ∧ s.rings.length < LIM ∧ ∀ m', Wk m0 w m' (goL s p) → R (movedD s.row p) m'
def asL1 (s : LW) (c : Nat) : Nat := if s.caps then upC c else c
def ph__law_as (A : Ad) : FW := fun ds m R _ => ∃ w c m0 s, ds = [.ref w, ch c] ∧ c < 128 ∧ Wk m0 w m s ∧ R (ch (asL1 s c)) m
end DL
end
section
set_option maxHeartbeats 0
namespace DL
open PySem
inductive Ky where
  | sign (c : Nat) | lift (c : Nat) | blank | half | back | tab | ret | up | down | left | right | set | clear | all | free | ribbon | caps
def kyW : Ky → String
  | .sign _ => "sign" | .lift _ => "lift" | .blank => "blank" | .half => "half" | .back => "back" | .tab => "tab" | .ret => "return" | .up => "up" | .down => "down" | .left => "left" | .right => "right" | .set => "set" | .clear => "clear" | .all => "all" | .free => "free" | .ribbon => "ribbon" | .caps => "caps"
def kyD : Ky → D
  | .sign c => .tup [wordD "sign", ch c]
  | .lift c => .tup [wordD "lift", ch c]
  | k => k1 (kyW k)
def kyOk : Ky → Prop
  | .sign c => c < 128
  | .lift c => c < 128
  | _ => True
def strikeD (w : String) (k : Mk) : D := .tup [wordD w, .int k.row, .int k.place, ch k.sign, colD k.red]
def nothD (row p : Int) : D := .tup [wordD "nothing", .int row, .int p]
def likes (s : LW) (c : Nat) : List Mk := s.marks.filter fun k => decide (k.row = s.row) && decide (k.place = s.place) && decide (k.sign = asL1 s c)
def inkM (s : LW) (st : Bool) (c : Nat) : List Mk × D :=
  if st then (s.marks ++ [⟨s.many, s.row, s.place, asL1 s c, s.red⟩], strikeD "struck" ⟨s.many, s.row, s.place, asL1 s c, s.red⟩)
  else match (likes s c).getLast? with
    | none => (s.marks, nothD s.row s.place)
    | some k => (s.marks.erase k, strikeD "lifted" k)
def inkL (s : LW) (st : Bool) (c : Nat) : LW × D :=
  if shutL s (s.place + 2) = true then (s, lockD)
  else
    let s1 : LW := { s with marks := (inkM s st c).1 }
    (if c ∈ s.dead then s1 else goL s1 (s.place + 2), (inkM s st c).2)
def ph__law_ink (A : Ad) : FW := fun ds m R _ => ∃ w st c m0 s, ds = [.ref w, wordD (if st = true then "sign" else "lift"), ch c] ∧ c < 128 ∧ Wk m0 w m s ∧ (∀ k ∈ s.marks, k.sign < 128) ∧ s.marks.length < 1000000 ∧ s.rings.length < 1000000 ∧ ∀ m', Wk m0 w m' (inkL s st c).1 → R (inkL s st c).2 m'
def turnL (s : LW) : Ky → LW × D
  | .left => if s.place < s.high then ({ s with low := s.place }, doneD) else (s, lockD)
  | .right => if s.low < s.place then ({ s with high := s.place }, doneD) else (s, lockD)
  | .set => ({ s with tabs := s.tabs.filter (fun t => decide (t ≠ s.place)) ++ [s.place] }, doneD)
  | .clear => if s.place ∈ s.tabs then ({ s with tabs := s.tabs.filter (fun t => decide (t ≠ s.place)) }, doneD) else (s, lockD)
  | .all => ({ s with tabs := [] }, doneD)
  | .free => ({ s with free := true }, doneD)
  | .ribbon => ({ s with red := !s.red }, doneD)
  | .caps => ({ s with caps := !s.caps }, doneD)
  | _ => (s, doneD)
def isTurn : Ky → Bool
  | .left => true | .right => true | .set => true | .clear => true | .all => true | .free => true | .ribbon => true | .caps => true
  | _ => false
def ph__law_turn (A : Ad) : FW := fun ds m R _ => ∃ w k m0 s, ds = [.ref w, wordD (kyW k)] ∧ isTurn k = true ∧ Wk m0 w m s ∧ s.tabs.length < 1000000 ∧ ∀ m', Wk m0 w m' (turnL s k).1 → R (turnL s k).2 m'
def onL (s : LW) (p : Int) : LW × D := if shutL s p = true then (s, lockD) else (goL s p, movedD s.row p)
def rowL (s : LW) (r : Int) (home : Bool) : LW × D :=
  if r < 0 ∨ 60 < r then (s, lockD) else if home then ({ s with row := r, place := s.low, free := false }, movedD r s.low) else ({ s with row := r }, movedD r s.place)
def tabL (s : LW) : Int := ((s.tabs.filter fun t => decide (s.place < t)) ++ [999]).min?.getD 0
def stepL1 (s : LW) : Ky → LW × D
  | .back => if s.place < 2 ∨ (s.free = false ∧ s.low ≤ s.place ∧ s.place - 2 < s.low) then (s, lockD) else ({ s with place := s.place - 2 }, movedD s.row (s.place - 2))
  | .ret => rowL s (s.row + s.dn) true
  | .up => rowL s (s.row - 1) false
  | .down => rowL s (s.row + 1) false
  | .blank => onL s (s.place + 2)
  | .half => onL s (s.place + 1)
  | .tab => onL s (tabL s)
  | _ => (s, lockD)
def isStep : Ky → Bool
  | .back => true | .ret => true | .up => true | .down => true | .blank => true | .half => true | .tab => true
  | _ => false
def ph__law_step (A : Ad) : FW := fun ds m R _ => ∃ w k m0 s, ds = [.ref w, wordD (kyW k)] ∧ isStep k = true ∧ Wk m0 w m s ∧ s.tabs.length < 1000000 ∧ s.rings.length < 1000000 ∧ ∀ m', Wk m0 w m' (stepL1 s k).1 → R (stepL1 s k).2 m'
def actL (s : LW) : Ky → LW × D
  | .sign c => inkL s true c
  | .lift c => inkL s false c
  | k => if isTurn k then turnL s k else stepL1 s k
def pressL (s : LW) (k : Ky) : LW × D := ({ (actL s k).1 with many := (actL s k).1.many + 1 }, (actL s k).2)
structure LW.sm (s : LW) (n : Nat) : Prop where
  t : s.tabs.length ≤ n
  m : s.marks.length ≤ n
  r : s.rings.length ≤ n
  g : ∀ k ∈ s.marks, k.sign < 128
def ph__law_press (A : Ad) : FW := fun ds m R _ => ∃ w k m0 s n, ds = [.ref w, kyD k] ∧ kyOk k ∧ Wk m0 w m s ∧ s.sm n ∧ n < 1000000 ∧ ∀ m', Wk m0 w m' (pressL s k).1 → (pressL s k).1.sm (n + 1) → R (pressL s k).2 m'
def runL (s : LW) : List Ky → LW × List D
  | [] => (s, [])
  | k :: ks => ((runL (pressL s k).1 ks).1, (pressL s k).2 :: (runL (pressL s k).1 ks).2)
def seqD (b : Bool) (xs : List D) : D := match b with | true => .lst xs | false => .tup xs
theorem seqD_I (b : Bool) (xs : List D) (m : Store) (K : List D → (Store → Prop) → Prop) : asI m (seqD b xs) K = K xs fun _ => True := by cases b <;> rfl
def ph__law_worked (A : Ad) : FW := fun ds m R _ => ∃ c dead dn tabs ks b, ds = [machD c dead dn, .tup (tabs.map .int), seqD b (ks.map kyD)] ∧ MOk c dead dn ∧ (∀ k ∈ ks, kyOk k) ∧ tabs.length + ks.length < 500000 ∧
  ∀ w m', Wk m w m' (runL (newL c dead dn tabs) ks).1 → R (.tup [.ref w, .lst (runL (newL c dead dn tabs) ks).2]) m'
def marD (l r : Int) : List D := onD r ++ [k1 "right", k1 "return"] ++ (onD l ++ [k1 "left"])
def ph__law_margins (A : Ad) : FW := fun ds m R _ => ∃ l r, ds = [.int l, .int r] ∧ 0 ≤ l ∧ l ≤ 1000 ∧ 0 ≤ r ∧ r ≤ 1000 ∧ R (.tup (marD l r)) m
end DL
end
section
set_option maxHeartbeats 0
namespace DL
open PySem
def psi_is_whole (A : Ad) : WS := wRet (wAndV (wCallB wIsi (wCons (wVar 0) (wCons (wC (.ty "int")) (wNil)))) (wAndV (wNotV (wCallB wIsi (wCons (wVar 0) (wCons (wC (.ty "bool")) (wNil))))) (wChain wLe wLe (wVar 1) (wVar 0) (wVar 2))))
def psi_is_one_of (A : Ad) : WS := wRet (wAndV (wCallB wIsi (wCons (wVar 0) (wCons (wC (.ty "str")) (wNil)))) (wAndV (wOp wEq (wCallB wLen (wCons (wVar 0) (wNil))) (wC (.int 1))) (wOp wIn (wVar 0) (wVar 1))))
def psi_is_rising (A : Ad) : WS := wRet (wCallB wAll (wCons (wLc false [1, 2] (iZipQ (wVar 0) (wSl (wCut false) (wVar 0) (oSome (wC (.int 1))) (oNone))) (gTp [1, 2]) (wYes) (wOp wLt (wVar 1) (wVar 2))) (wNil)))
def psi_is_machine (A : Ad) : WS := wSeq (wIfS (wOr (wNot (wTest (wCallB wIsi (wCons (wVar 0) (wCons (wC (.ty "tuple")) (wNil)))))) (wOr (wTest (wOp wNe (wCallB wLen (wCons (wVar 0) (wNil))) (wC (.int 3)))) (wNot (wTest (wCall 3 (ph_is_whole A) (wCons (wOp wIx (wVar 0) (wC (.int 0))) (wCons (wC (.int 8)) (wCons (wC (.int 40)) (wNil))))))))) (wRet (wC (.bl false))) (wNext)) (wSeq (wIfS (wOr (wNot (wTest (wCallB wIsi (wCons (wOp wIx (wVar 0) (wC (.int 1))) (wCons (wC (.ty "tuple")) (wNil)))))) (wNot (wTest (wCallB wAll (wCons (wLc false [1] (iSeq (wOp wIx (wVar 0) (wC (.int 1)))) (gNm 1) (wYes) (wCall 2 (ph_is_one_of A) (wCons (wVar 1) (wCons (wC (.str G_DEAD)) (wNil))))) (wNil)))))) (wRet (wC (.bl false))) (wNext)) (wRet (wAndV (wCall 1 (ph_is_rising A) (wCons (wOp wIx (wVar 0) (wC (.int 1))) (wNil))) (wCall 3 (ph_is_whole A) (wCons (wOp wIx (wVar 0) (wC (.int 2))) (wCons (wC (.int 2)) (wCons (wC (.int 4)) (wNil))))))))
def psi_need_machine (A : Ad) : WS := wIfS (wNot (wTest (wCall 1 (ph_is_machine A) (wCons (wVar 0) (wNil))))) (wRaise A.xNoMachine) (wNext)
def psi_end_of (A : Ad) : WS := wRet (wOp (wMul false) (wC (.int 2)) (wOp wIx (wVar 0) (wC (.int 0))))
def psi_need_margins (A : Ad) : WS := wIfS (wOr (wNot (wTest (wCall 3 (ph_is_whole A) (wCons (wVar 1) (wCons (wC (.int 0)) (wCons (wCall 1 (ph_end_of A) (wCons (wVar 0) (wNil))) (wNil))))))) (wOr (wNot (wTest (wCall 3 (ph_is_whole A) (wCons (wVar 2) (wCons (wC (.int 0)) (wCons (wCall 1 (ph_end_of A) (wCons (wVar 0) (wNil))) (wNil))))))) (wTest (wOp wGe (wVar 1) (wVar 2))))) (wRaise A.xNoPlace) (wNext)
def psi_key_for (A : Ad) : WS := wRet (wTup (wCons (wC (.str (PySem.Str.ofString "sign"))) (wCons (wIf (wTest (wOp wIn (wVar 0) (wC (.str G_GREAT)))) (wOp wIx (wC (.str G_LETTERS)) (wMt "str" wSIndex (wC (.str G_GREAT)) (wCons (wVar 0) (wNil)))) (wVar 0)) (wNil))))
end DL
end
section
set_option maxHeartbeats 0
namespace DL
open PySem
theorem keyOf_len (c : Nat) : (keyOf c).length ≤ 3 := by unfold keyOf; split <;> (try split) <;> simp
theorem keysOf_len : ∀ cs : List Nat, (keysOf cs).length ≤ 3 * cs.length
  | [] => by simp [keysOf]
  | c :: cs => by
    have h1 := keyOf_len c
    have h2 := keysOf_len cs
    simp [keysOf] at h2 ⊢
    omega
theorem keysOf_snoc (cs : List Nat) (c : Nat) : keysOf (cs ++ [c]) = keysOf cs ++ keyOf c := by simp [keysOf]
theorem LIMv : LIM = 16777216 := rfl
theorem repD_one (k : Nat) (d : D) : repD k [d] = List.replicate k d := by
  unfold repD
  induction k with
  | zero => rfl
  | succ k ih => rw [List.replicate_succ, List.flatten_cons, ih]; rfl
theorem atL_nat {α : Type} (xs : List α) (i : Nat) : atL xs (i : Int) = xs[i]? := by
  unfold atL
  rw [ixA]
  by_cases h : i < xs.length
  · simp [h]
  · simp [h]
theorem atL_some {α : Type} {xs : List α} {i : Int} (h0 : 0 ≤ i) (h1 : i < xs.length) : ∃ v, v ∈ xs ∧ atL xs i = some v := by
  obtain ⟨n, rfl⟩ := Int.eq_ofNat_of_zero_le h0
  have hn : n < xs.length := by omega
  exact ⟨xs[n], List.getElem_mem hn, by rw [atL_nat, List.getElem?_eq_getElem hn]⟩
theorem cut13 (k : Mk) : cutL [D.int k.n, .int k.row, .int k.place, ch k.sign, colD k.red] (some 1) (some 4) = [.int k.row, .int k.place, ch k.sign] := rfl
theorem eq_likes (k : Mk) (row place : Int) (c : Nat) : eqD (.tup [.int k.row, .int k.place, ch k.sign]) (.tup [.int row, .int place, ch c]) = (decide (k.row = row) && decide (k.place = place) && decide (k.sign = c)) := by
  simp [eqD, eqDs, Bool.and_assoc]
theorem ok_ch (c : Nat) (n : Nat) (h : c < 128) : dOk (ch c) n = true := by
  simp [dOk, okS]; omega
theorem ok_word (s : String) (n : Nat) (h : okS (PySem.Str.ofString s) = true) : dOk (wordD s) n = true := by
  simpa [dOk, wordD] using h
theorem ok_col (b : Bool) (n : Nat) : dOk (colD b) n = true := by
  cases b
  · exact ok_word "black" n (by decide +kernel)
  · exact ok_word "red" n (by decide +kernel)
theorem eq_col (a b : Bool) : eqD (colD a) (colD b) = decide (a = b) := by
  cases a <;> cases b <;> simp [colD, eqD, wordD]
theorem eq_mk (a b : Mk) : eqD (mkD a) (mkD b) = decide (a = b) := by
  obtain ⟨n, r, p, s, c⟩ := a
  obtain ⟨n', r', p', s', c'⟩ := b
  simp [mkD, eqD, eqDs, eq_col]
theorem ok_mk (k : Mk) (n : Nat) (h : k.sign < 128) : dOk (mkD k) (n + 1) = true := by
  simp [mkD, dOk, dOks, ok_col, okS]; omega
theorem ok_mks : ∀ (ks : List Mk) (n : Nat), (∀ k ∈ ks, k.sign < 128) → dOks (ks.map mkD) (n + 1) = true
  | [], n, _ => rfl
  | k :: ks, n, h => by
    rw [List.map_cons, dOks, ok_mk k n (h k List.mem_cons_self), ok_mks ks n fun z hz => h z (List.mem_cons_of_mem _ hz)]; rfl
theorem erase_mk (ks : List Mk) (k : Mk) (h : k ∈ ks) : ∃ j, (ks.map mkD)[j]? = some (mkD k) ∧ (∀ i z, i < j → (ks.map mkD)[i]? = some z → eqD z (mkD k) = false) ∧ (ks.map mkD).eraseIdx j = (ks.erase k).map mkD := by
  induction ks with
  | nil => cases h
  | cons a ks ih =>
    by_cases e : a = k
    · subst e
      exact ⟨0, rfl, fun i z hi => absurd hi (by omega), by simp⟩
    · obtain ⟨j, h1, h2, h3⟩ := ih (by rcases List.mem_cons.mp h with z | z; exact absurd z.symm e; exact z)
      refine ⟨j + 1, h1, fun i z hi hz => ?_, ?_⟩
      · cases i with
        | zero =>
          have hz' : mkD a = z := by simpa using hz
          subst hz'
          rw [eq_mk]
          simp [e]
        | succ i => exact h2 i z (by omega) (by simpa using hz)
      · rw [List.map_cons, List.eraseIdx_cons_succ, h3, List.erase_cons_tail (by simpa using e)]; rfl
theorem upC_lt {c : Nat} (h : c < 128) : upC c < 128 := by unfold upC; split <;> omega
theorem loC_lt {c : Nat} (h : c < 128) : loC c < 128 := by unfold loC; split <;> omega
theorem asL1_lt {s : LW} {c : Nat} (h : c < 128) : asL1 s c < 128 := by
  unfold asL1
  split
  · exact upC_lt h
  · exact h
theorem in_dead {A : Ad} (hA : AdOk A) {dead : List Nat} {k : Nat} {b : Bool} {m : Store} {R : KD} (h : R (.bl (decide (k ∉ dead))) m) : wNotIn (ch k) (.tup (dead.map ch)) m R := by
  refine ⟨rfl, by simp [flatD], ?_⟩
  have e : inD (ch k) (dead.map ch) = decide (k ∈ dead) := by
    simp only [inD, List.any_map]
    rw [Bool.eq_iff_iff]
    simp [eqD, Function.comp]
  rw [e]
  simpa using h
theorem lc_each {G : Store → Prop} {vs : List Nat} {i : Nat} {e : WE} {r : Env} {m : Store} (g : D → D) (hG : G m) (xs acc : List D) (K : List D → Store → Prop) (hl : acc.length + xs.length ≤ LIM)
    (h : ∀ a ∈ xs, ∀ K1 : KD, K1 (g a) m → e (put (wipeD r vs) i (some a)) m K1 (fun _ _ => False)) (q : K (acc ++ xs.map g) m) : wLcL G vs (gNm i) wYes e r xs acc m K := by
  have := lc_map (G := G) (vs := vs) (i := i) (e := e) (r := r) (m := m) id g hG xs acc K hl h q
  rwa [List.map_id] at this
theorem arg_ty {m : Store} {d : D} (h : arg m d) : ∃ n, tyN m d = some n ∧ ((∃ xs, d = .tup xs ∧ n = "tuple") ∨ ((∀ xs, d ≠ .tup xs) ∧ n ≠ "tuple")) := by
  rcases h with ⟨h, _⟩ | ⟨a, kvs, rfl, e⟩
  · cases d <;> simp [dOk, tyN] at h ⊢
  · simp [tyN, e]
theorem sz_at : ∀ {xs : List D} {d : D}, szOks xs = true → d ∈ xs → szOk d = true
  | x :: xs, d, h, hm => by
    have h' : szOk x = true ∧ szOks xs = true := by simpa [szOks] using h
    rcases List.mem_cons.mp hm with e | e
    · rw [e]; exact h'.1
    · exact sz_at h'.2 e
theorem dok_at : ∀ {xs : List D} {n : Nat} {d : D}, dOks xs n = true → d ∈ xs → dOk d n = true
  | x :: xs, n, d, h, hm => by
    have h' : dOk x n = true ∧ dOks xs n = true := by simpa [dOks] using h
    rcases List.mem_cons.mp hm with e | e
    · rw [e]; exact h'.1
    · exact dok_at h'.2 e
mutual
theorem dok_up : ∀ (d : D) (n : Nat), dOk d n = true → dOk d (n + 1) = true
  | .non, _, _ => by simp [dOk]
  | .bl _, _, _ => by simp [dOk]
  | .int _, _, _ => by simp [dOk]
  | .str s, _, h => by simp [dOk] at h ⊢; exact h
  | .tup xs, n + 1, h => by rw [dOk] at h ⊢; exact doks_up xs n h
  | .lst xs, n + 1, h => by rw [dOk] at h ⊢; exact doks_up xs n h
  | .tup xs, 0, h => by simp [dOk] at h
  | .lst xs, 0, h => by simp [dOk] at h
  | .ref a, n, h => by simp [dOk] at h
  | .scr a, n, h => by simp [dOk] at h
  | .ty a, n, h => by simp [dOk] at h
theorem doks_up : ∀ (xs : List D) (n : Nat), dOks xs n = true → dOks xs (n + 1) = true
  | [], _, _ => rfl
  | x :: xs, n, h => by
    have h' : dOk x n = true ∧ dOks xs n = true := by simpa [dOks] using h
    rw [dOks, dok_up x n h'.1, doks_up xs n h'.2]; rfl
end
theorem dok_ty {m : Store} {d : D} {n : Nat} (h : dOk d n = true) : (tyN m d).isSome = true := by
  cases d <;> simp [dOk, tyN] at h ⊢
theorem doks_all : ∀ {xs : List D} {n : Nat}, (∀ d ∈ xs, dOk d n = true) → dOks xs n = true
  | [], n, _ => rfl
  | x :: xs, n, h => by rw [dOks, h x List.mem_cons_self, doks_all fun d hd => h d (List.mem_cons_of_mem _ hd)]; rfl
theorem szs_all : ∀ {xs : List D}, (∀ d ∈ xs, szOk d = true) → szOks xs = true
  | [], _ => rfl
  | x :: xs, h => by rw [szOks, h x List.mem_cons_self, szs_all fun d hd => h d (List.mem_cons_of_mem _ hd)]; rfl
end DL
end
section
set_option maxHeartbeats 0
namespace DL
open PySem
variable {A : Ad} (hA : AdOk A)
include hA
theorem dt_is_whole : ∀ ds m R x, ph_is_whole A ds m R x → psi_is_whole A (startD 3 ds) m (endD R x) := by
  rintro ds m R x ⟨d, lo, hi, rfl, ht, h⟩
  simp [psi_is_whole, wIsi]
  cases d with
  | int i =>
    simp [tyN, isiN, wLe]
    by_cases h1 : lo ≤ i <;> simp [h1, wholeB] at h ⊢ <;> exact h
  | bl b => simp [tyN, isiN, wholeB] at h ⊢; exact h
  | ref a =>
    simp [tyN] at ht ⊢
    cases e : m a with
    | none => simp [e] at ht
    | some o => cases o <;> simp [e, isiN, wholeB] at ht h ⊢ <;> exact h
  | _ => simp [tyN, isiN, wholeB] at ht h ⊢ <;> exact h
theorem dt_is_one_of : ∀ ds m R x, ph_is_one_of A ds m R x → psi_is_one_of A (startD 2 ds) m (endD R x) := by
  rintro ds m R x ⟨d, s, rfl, ht, hl, h⟩
  simp [psi_is_one_of, wIsi]
  cases d with
  | str t =>
    have hl := hl t rfl
    simp [tyN, isiN, wLen, hl, wEq]
    simp only [oneOfB] at h
    obtain ⟨⟨l⟩⟩ := t
    match l, h with
    | [], h => simpa [PySem.Str.length] using h
    | [c], h => simp [PySem.Str.length, wIn, wInB]; simpa using h
    | a :: b :: l, h =>
      have z : ¬ ((l.length : Int) + 1 + 1 = 1) := by omega
      simpa [PySem.Str.length, z] using h
  | ref a =>
    simp [tyN] at ht ⊢
    cases e : m a with
    | none => simp [e] at ht
    | some o => cases o <;> simp [e, isiN, oneOfB] at ht h ⊢ <;> exact h
  | _ => simp [tyN, isiN, oneOfB] at ht h ⊢ <;> exact h
theorem dt_end_of : ∀ ds m R x, ph_end_of A ds m R x → psi_end_of A (startD 1 ds) m (endD R x) := by
  rintro ds m R x ⟨c, dead, dn, rfl, hM, h⟩
  simp [psi_end_of, machD, wIx, asQ, atL, ixL, wMul]
  exact h
theorem rise_lc {α : Type} (f : α → D) (lt : α → α → Bool) (m : Store) (hw : ∀ a b R, R (.bl (lt a b)) m → wLt (f a) (f b) m R) (x0 : Option D) : ∀ (ns : List α) (acc : List D) (K : List D → Store → Prop), acc.length + ns.length ≤ LIM →
    K (acc ++ ((ns.zip ns.tail).map fun p => .bl (lt p.1 p.2))) m → wLcL (fun _ => True) [1, 2] (gTp [1, 2]) wYes (wOp wLt (wVar 1) (wVar 2)) [x0, none, none] (zipD (ns.map f) (ns.tail.map f)) acc m K := by
  intro ns
  induction ns with
  | nil => intro acc K hl h; exact ⟨trivial, by simpa using h⟩
  | cons a ns ih =>
    intro acc K hl h
    cases ns with
    | nil => exact ⟨trivial, by simpa using h⟩
    | cons b ns =>
      refine ⟨trivial, ?_⟩
      simp only [List.length_cons] at hl
      simp
      refine hw a b _ ⟨by omega, ?_⟩
      refine ih _ K (by simp; omega) (by simpa using h)
theorem rise_all {α : Type} (lt : α → α → Bool) : ∀ ns : List α, ((ns.zip ns.tail).map fun p => lt p.1 p.2).all id = rise lt ns
  | [] => rfl
  | [a] => rfl
  | a :: b :: ns => by
    have ih := rise_all lt (b :: ns)
    simp [rise] at ih ⊢
    rw [ih]
theorem dt_is_rising : ∀ ds m R x, ph_is_rising A ds m R x → psi_is_rising A (startD 3 ds) m (endD R x) := by
  rintro ds m R x (⟨ns, rfl, hl, h⟩ | ⟨ns, rfl, hl, h⟩)
  · simp [psi_is_rising, wCut, iZipQ]
    have e : cutL (ns.map D.int) (some 1) none = ns.tail.map D.int := by
      cases ns with
      | nil => simp [cutL, sIxD]
      | cons a l => simp [cutL, sIxD]; exact List.take_of_length_le (by simp)
    rw [e]
    refine rise_lc hA D.int (fun a b => decide (a < b)) m (fun a b R h => h) _ ns [] _ (by simpa using hl) ?_
    refine ⟨(ns.zip ns.tail).map fun p => decide (p.1 < p.2), by simp [asL], ?_⟩
    rw [rise_all hA (fun a b : Int => decide (a < b))]; exact h
  · simp [psi_is_rising, wCut, iZipQ]
    have e : cutL (ns.map ch) (some 1) none = ns.tail.map ch := by
      cases ns with
      | nil => simp [cutL, sIxD]
      | cons a l => simp [cutL, sIxD]; exact List.take_of_length_le (by simp)
    rw [e]
    refine rise_lc hA ch (fun a b => decide (a < b)) m (fun a b R h => ?_) _ ns [] _ (by simpa using hl) ?_
    · simpa [wLt] using h
    refine ⟨(ns.zip ns.tail).map fun p => decide (p.1 < p.2), by simp [asL], ?_⟩
    rw [rise_all hA (fun a b : Nat => decide (a < b))]; exact h
theorem dead_cs : G_DEAD.cps.toList = [39, 94, 126] := by decide +kernel
omit hA in
theorem dead_is : ∀ {xs : List D}, (∀ d ∈ xs, oneOfB d G_DEAD = true) → ∃ dead : List Nat, xs = dead.map ch ∧ xs.map sgn = dead ∧ ∀ k ∈ dead, k = 39 ∨ k = 94 ∨ k = 126
  | [], _ => ⟨[], rfl, rfl, by simp⟩
  | d :: xs, h => by
    obtain ⟨dead, e1, e2, e3⟩ := dead_is (xs := xs) fun d hd => h d (List.mem_cons_of_mem _ hd)
    have h0 := h d List.mem_cons_self
    match d, h0 with
    | .str ⟨⟨[c]⟩⟩, h0 =>
      have hc : c ∈ G_DEAD.cps.toList := by simpa [oneOfB] using h0
      have hc' : c = 39 ∨ c = 94 ∨ c = 126 := by
        rw [show G_DEAD.cps.toList = [39, 94, 126] by decide +kernel] at hc
        simpa using hc
      refine ⟨c :: dead, by rw [e1]; rfl, by rw [List.map_cons, e2]; rfl, fun k hk => ?_⟩
      rcases List.mem_cons.mp hk with z | z
      · rw [z]; exact hc'
      · exact e3 k z
omit hA in
theorem rise_dead : ∀ {dead : List Nat}, (∀ k ∈ dead, k = 39 ∨ k = 94 ∨ k = 126) → rise (fun a b : Nat => decide (a < b)) dead = true → dead ∈ deads := by
  intro dead h hr
  match dead, h, hr with
  | [], _, _ => decide
  | [a], h, _ =>
    rcases h a (by simp) with e | e | e <;> subst e <;> decide
  | [a, b], h, hr =>
    rcases h a (by simp) with e | e | e <;> rcases h b (by simp) with e2 | e2 | e2 <;> subst e e2 <;> first | decide | (exact absurd hr (by decide))
  | [a, b, c], h, hr =>
    rcases h a (by simp) with e | e | e <;> rcases h b (by simp) with e2 | e2 | e2 <;> rcases h c (by simp) with e3 | e3 | e3 <;> subst e e2 e3 <;> first | decide | (exact absurd hr (by decide))
  | a :: b :: c :: d :: r, h, hr =>
    exfalso
    simp only [rise, Bool.and_eq_true, decide_eq_true_eq] at hr
    have h1 := h a (by simp)
    have h2 := h b (by simp)
    have h3 := h c (by simp)
    have h4 := h d (by simp)
    omega
omit hA in
theorem machB_is {d : D} (h : machB d = true) : ∃ c dead dn, d = machD c dead dn ∧ MOk c dead dn := by
  unfold machB at h
  split at h
  · rename_i a xs b
    simp only [Bool.and_eq_true, List.all_eq_true] at h
    obtain ⟨⟨⟨h1, h3⟩, h4⟩, h5⟩ := h
    obtain ⟨dead, e1, e2, e3⟩ := dead_is h3
    rw [e2] at h4
    cases a <;> simp [wholeB] at h1
    cases b <;> simp [wholeB] at h5
    exact ⟨_, dead, _, by rw [e1]; rfl, h1.1, h1.2, rise_dead e3 h4, h5.1, h5.2⟩
  · cases h
omit hA in
theorem deads_rise {dead : List Nat} (h : dead ∈ deads) : rise (fun a b : Nat => decide (a < b)) dead = true := by
  revert dead; decide
omit hA in
theorem deads_mem {dead : List Nat} (h : dead ∈ deads) : ∀ k ∈ dead, k = 39 ∨ k = 94 ∨ k = 126 := by
  revert dead; decide
omit hA in
theorem sgn_ch (dead : List Nat) : (dead.map ch).map sgn = dead := by
  induction dead with
  | nil => rfl
  | cons a l ih => rw [List.map_cons, List.map_cons, ih]; rfl
omit hA in
theorem mach_is {c : Int} {dead : List Nat} {dn : Int} (h : MOk c dead dn) : machB (machD c dead dn) = true := by
  have e1 := deads_rise h.de
  have e2 : ((dead.map ch).all fun d => oneOfB d G_DEAD) = true := by
    rw [List.all_eq_true]
    intro d hd
    obtain ⟨k, hk, rfl⟩ := List.mem_map.mp hd
    rcases deads_mem h.de k hk with e | e | e <;> subst e <;> decide +kernel
  have e3 : wholeB (.int c) 8 40 = true := by simp [wholeB, h.lo, h.hi]
  have e4 : wholeB (.int dn) 2 4 = true := by simp [wholeB, h.d2, h.d4]
  simp only [machD, machB]
  rw [sgn_ch, e1, e2, e3, e4]; rfl
omit hA in
theorem mach_arg {m : Store} {c : Int} {dead : List Nat} {dn : Int} (h : MOk c dead dn) : arg m (machD c dead dn) := by
  have h1 : ∀ dead ∈ deads, dOks (dead.map ch) 58 = true ∧ szOks (dead.map ch) = true ∧ (dead.map ch).length ≤ LIM := by decide +kernel
  obtain ⟨a1, a2, a3⟩ := h1 dead h.de
  refine .inl ⟨?_, ?_⟩
  · simp only [machD, dOk, dOks, a1]; rfl
  · simp only [machD, szOk, szOks, a2, decide_eq_true a3]; show (decide (3 ≤ LIM) && _) = true; decide
omit hA in
theorem chs_inj : ∀ {a b : List Nat}, a.map ch = b.map ch → a = b
  | [], [], _ => rfl
  | [], _ :: _, h => by simp at h
  | _ :: _, [], h => by simp at h
  | x :: a, y :: b, h => by
    simp only [List.map_cons, List.cons.injEq] at h
    have e : x = y := by simpa using h.1
    rw [e, chs_inj h.2]
omit hA in
theorem machD_inj {c c' : Int} {dead dead' : List Nat} {dn dn' : Int} (h : machD c dead dn = machD c' dead' dn') : c = c' ∧ dead = dead' ∧ dn = dn' := by
  simp only [machD, D.tup.injEq, List.cons.injEq, D.int.injEq, and_true] at h
  exact ⟨h.1, chs_inj h.2.1, h.2.2⟩
omit hA in
theorem inMach.good {m : Store} {x : XD} {c : Int} {dead : List Nat} {dn : Int} {K : Int → List Nat → Int → Prop} (hM : MOk c dead dn) (h : K c dead dn) : inMach A m (machD c dead dn) x K := by
  refine ⟨mach_arg hM, fun z => ?_, fun c' dead' dn' e _ => ?_⟩
  · rw [mach_is hM] at z; cases z
  · obtain ⟨e1, e2, e3⟩ := machD_inj e
    rw [← e1, ← e2, ← e3]; exact h
omit hA in
theorem inMach.no {m : Store} {d : D} {x : XD} {K : Int → List Nat → Int → Prop} (ha : arg m d) (hb : machB d = false) (h : x A.xNoMachine m) : inMach A m d x K := by
  refine ⟨ha, fun _ => h, fun c dead dn e hM => ?_⟩
  rw [e, mach_is hM] at hb; cases hb
theorem dt_is_machine : ∀ ds m R x, ph_is_machine A ds m R x → psi_is_machine A (startD 2 ds) m (endD R x) := by
  rintro ds m R x ⟨d, rfl, ha, h⟩
  have L : LIM = 16777216 := rfl
  obtain ⟨n, hn, ⟨xs, rfl, rfl⟩ | ⟨no, nt⟩⟩ := arg_ty ha
  · obtain ⟨h1, h2⟩ : dOk (.tup xs) 60 = true ∧ szOk (.tup xs) = true := by
      rcases ha with z | ⟨_, _, z, _⟩
      · exact z
      · cases z
    have h3 : xs.length ≤ LIM ∧ szOks xs = true := by simpa [szOk] using h2
    have h4 : dOks xs 59 = true := by simpa [dOk] using h1
    simp [psi_is_machine, wIsi, hn, isiN, wLen, asQ, wNe, wEq]
    by_cases hl : xs.length = 3
    · match xs, hl with
      | [a, b, c], _ =>
        have ta := fun m => dok_ty (m := m) (dok_at h4 (show a ∈ [a, b, c] by simp))
        have tb := dok_at h4 (show b ∈ [a, b, c] by simp)
        have tc := fun m => dok_ty (m := m) (dok_at h4 (show c ∈ [a, b, c] by simp))
        have i0 : ∀ (m : Store) (K : KD), wIx (.tup [a, b, c]) (.int 0) m K = K a m := fun _ K => rfl
        have i1 : ∀ (m : Store) (K : KD), wIx (.tup [a, b, c]) (.int 1) m K = K b m := fun _ K => rfl
        have i2 : ∀ (m : Store) (K : KD), wIx (.tup [a, b, c]) (.int 2) m K = K c m := fun _ K => rfl
        simp [i0, i1, i2]
        refine ⟨a, 8, 40, rfl, ta m, ?_⟩
        cases hw : wholeB a 8 40 with
        | false =>
          have e : machB (.tup [a, b, c]) = false := by
            cases b <;> simp [machB, hw]
          rw [e] at h; simpa using h
        | true =>
          simp
          obtain ⟨nb, hnb⟩ := Option.isSome_iff_exists.mp (dok_ty (m := m) tb)
          simp [i1, hnb]
          cases b with
          | tup ys =>
            have e : nb = "tuple" := by simpa [tyN] using hnb.symm
            subst e
            have sb : szOk (.tup ys) = true := sz_at h3.2 (by simp)
            have sb' : ys.length ≤ LIM ∧ szOks ys = true := by simpa [szOk] using sb
            have tb' : dOks ys 58 = true := by simpa [dOk] using tb
            simp [asI]
            refine lc_each (G := fun _ => True) (fun d => .bl (oneOfB d G_DEAD)) trivial ys [] _ (by simpa using sb'.1) (fun d hd K1 hK => ?_) ?_
            · simp
              refine ⟨d, G_DEAD, rfl, dok_ty (dok_at tb' hd), fun t e => ?_, hK⟩
              have := sz_at sb'.2 hd
              rw [e] at this
              simpa [szOk] using this
            · rw [List.nil_append]
              have e : ys.map (fun d => D.bl (oneOfB d G_DEAD)) = (ys.map fun d => oneOfB d G_DEAD).map .bl := by simp
              refine ⟨ys.map fun d => oneOfB d G_DEAD, by rw [e]; rfl, ?_⟩
              have e3 : (ys.map fun d => oneOfB d G_DEAD).all id = ys.all fun d => oneOfB d G_DEAD := by simp [List.all_map, Function.comp]
              rw [e3]
              cases hb : ys.all fun d => oneOfB d G_DEAD with
              | false =>
                have e : machB (.tup [a, .tup ys, c]) = false := by simp only [machB, hb]; simp
                rw [e] at h; simpa using h
              | true =>
                obtain ⟨dead, e1, e2, e3⟩ := dead_is (List.all_eq_true.mp hb)
                simp [i1]
                refine .inr ⟨dead, by rw [e1], ?_, ?_⟩
                · have := sb'.1; rw [e1] at this; simpa using this
                · have em : machB (.tup [a, .tup ys, c]) = (rise (fun a b : Nat => decide (a < b)) dead && wholeB c 2 4) := by
                    simp only [machB, hw, hb, e2]; simp
                  rw [em] at h
                  cases hr : rise (fun a b : Nat => decide (a < b)) dead with
                  | false => rw [hr] at h; simpa using h
                  | true =>
                    rw [hr] at h
                    simp [i2]
                    exact ⟨c, 2, 4, rfl, tc m, by simpa using h⟩
          | _ =>
            have e : ¬ nb = "tuple" := by
              simp [tyN, dOk] at hnb tb
              try (subst hnb; decide)
            simp [e]
            simpa [machB] using h
    · have e : machB (.tup xs) = false := by
        match xs, hl with
        | [], _ => simp [machB]
        | [_], _ => simp [machB]
        | [_, _], _ => simp [machB]
        | [_, _, _], hl => exact absurd rfl hl
        | _ :: _ :: _ :: _ :: _, _ => simp [machB]
      have hl' : ¬ ((xs.length : Int) = 3) := by omega
      rw [e] at h
      simpa [hl'] using h
  · have e : machB d = false := by
      cases d <;> simp [machB]
      exact absurd rfl (no _)
    have e2 : isiN n "tuple" = false := by simp [isiN, nt]
    simp [psi_is_machine, wIsi, hn, e2]
    rw [e] at h
    exact h
theorem dt_need_machine : ∀ ds m R x, ph_need_machine A ds m R x → psi_need_machine A (startD 1 ds) m (endD R x) := by
  rintro ds m R x ⟨d, rfl, ha, hno, hyes⟩
  simp [psi_need_machine]
  refine ⟨d, rfl, ha, ?_⟩
  cases hb : machB d with
  | false => simpa using hno hb
  | true =>
    obtain ⟨c, dead, dn, e, hM⟩ := machB_is hb
    simpa using hyes c dead dn e hM
theorem dt_need_margins : ∀ ds m R x, ph_need_margins A ds m R x → psi_need_margins A (startD 3 ds) m (endD R x) := by
  rintro ds m R x ⟨c, dead, dn, l, r, rfl, hM, hl, hr, h⟩
  simp [psi_need_margins]
  refine ⟨_, _, _, rfl, hM, _, _, _, rfl, hl, ?_⟩
  cases h1 : wholeB l 0 (2 * c) with
  | false => simp [marB, h1] at h ⊢; exact h
  | true =>
    simp
    refine ⟨_, _, _, rfl, hM, _, _, _, rfl, hr, ?_⟩
    cases h2 : wholeB r 0 (2 * c) with
    | false => simp [marB, h1, h2] at h ⊢; exact h
    | true =>
      simp
      cases l <;> simp [wholeB] at h1
      cases r <;> simp [wholeB] at h2
      rename_i a b
      simp [wGe]
      simp only [marB, wholeB] at h
      by_cases h3 : b ≤ a
      · have : ¬ a < b := by omega
        simp [h3]; simpa [h1, h2, this] using h
      · have : a < b := by omega
        simp [h3]; simpa [h1, h2, this] using h
theorem great_cs : G_GREAT.cps.toList = List.range' 65 26 := by decide +kernel
theorem letters_cs : G_LETTERS.cps.toList = List.range' 97 26 := by decide +kernel
theorem dt_key_for : ∀ ds m R x, ph_key_for A ds m R x → psi_key_for A (startD 1 ds) m (endD R x) := by
  rintro ds m R x ⟨c, rfl, h⟩
  simp [psi_key_for, wIn, wInB]
  have hg : (c ∈ G_GREAT.cps.toList) ↔ 65 ≤ c ∧ c < 91 := by
    rw [great_cs hA, List.mem_range'_1]
  by_cases hc : 65 ≤ c ∧ c < 91
  · have hg' : c ∈ G_GREAT.cps.toList := hg.mpr hc
    simp [Array.mem_toList_iff] at hg'
    simp [hg', tyM, wSIndex]
    refine ⟨c - 65, ?_, fun j hj => ?_, ?_⟩
    · have e : G_GREAT.cps.toList[c - 65]? = some c := by
        rw [great_cs hA, List.getElem?_range' (by omega)]; simp; omega
      simpa using e
    · have e : G_GREAT.cps.toList[j]? = some (65 + j) := by
        rw [great_cs hA, List.getElem?_range' (by omega)]; simp
      have e' : G_GREAT.cps[j]? = some (65 + j) := by simpa using e
      rw [e']; intro z; cases z; omega
    · have e : atL G_LETTERS.cps.toList ((c - 65 : Nat) : Int) = some (c + 32) := by
        have hlen : G_LETTERS.cps.toList.length = 26 := by rw [letters_cs hA]; simp
        unfold atL
        rw [hlen, ixA]
        have : c - 65 < 26 := by omega
        simp only [this, if_true, Option.bind]
        rw [letters_cs hA, List.getElem?_range' (by omega)]
        congr 1
        omega
      simp only [wIx]
      have hl : G_LETTERS.length ≤ LIM := by decide +kernel
      refine ⟨hl, ?_⟩
      rw [e]
      simp
      refine ⟨by decide, ?_⟩
      have e2 : loC c = c + 32 := by unfold loC; rw [if_pos (by omega)]
      simpa [kS, wordD, e2] using h
  · have hg' : ¬ c ∈ G_GREAT.cps.toList := fun z => hc (hg.mp z)
    simp [Array.mem_toList_iff] at hg'
    simp [hg']
    refine ⟨by decide, ?_⟩
    have e2 : loC c = c := by unfold loC; rw [if_neg (by omega)]
    simpa [kS, wordD, e2] using h
end DL
end
section
set_option maxHeartbeats 0
namespace DL
open PySem
def psi_keys_of (A : Ad) : WS := wSeq (wSet 1 (wLst true (wNil))) (wSeq (wFor (iSeq (wVar 0)) (gNm 2) (wIfS (wTest (wOp wEq (wVar 2) (wC (.str (PySem.Str.ofString " "))))) (wExp (wMt "list" wAppend (wVar 1) (wCons (wTup (wCons (wC (.str (PySem.Str.ofString "blank"))) (wNil))) (wNil)))) (wIfS (wTest (wOp wIn (wVar 2) (wC (.str G_GREAT)))) (wExp (wMt "list" wExtend (wVar 1) (wCons (wLst false (wCons (wTup (wCons (wC (.str (PySem.Str.ofString "caps"))) (wNil))) (wCons (wCall 1 (ph_key_for A) (wCons (wVar 2) (wNil))) (wCons (wTup (wCons (wC (.str (PySem.Str.ofString "caps"))) (wNil))) (wNil))))) (wNil)))) (wExp (wMt "list" wAppend (wVar 1) (wCons (wTup (wCons (wC (.str (PySem.Str.ofString "sign"))) (wCons (wVar 2) (wNil)))) (wNil))))))) (wRet (wVar 1)))
def psi_on (A : Ad) : WS := wRet (wOp (wAdd false) (wOp (wMul false) (wLst false (wCons (wTup (wCons (wC (.str (PySem.Str.ofString "blank"))) (wNil))) (wNil))) (wOp wDiv (wVar 0) (wC (.int 2)))) (wOp (wMul false) (wLst false (wCons (wTup (wCons (wC (.str (PySem.Str.ofString "half"))) (wNil))) (wNil))) (wOp wMod (wVar 0) (wC (.int 2)))))
def psi_is_line (A : Ad) : WS := wSeq (wIfS (wOr (wNot (wTest (wCallB wIsi (wCons (wVar 1) (wCons (wC (.ty "str")) (wNil)))))) (wNot (wTest (wChain wLe wLe (wC (.int 1)) (wCallB wLen (wCons (wVar 1) (wNil))) (wC (.int 40)))))) (wRet (wC (.bl false))) (wNext)) (wRet (wCallB wAll (wCons (wLc false [3] (iSeq (wVar 1)) (gNm 3) (wYes) (wAndV (wOp wIn (wVar 3) (wOp (wAdd false) (wOp (wAdd false) (wC (.str G_SIGNS)) (wC (.str G_GREAT))) (wVar 2))) (wOp wNotIn (wVar 3) (wOp wIx (wVar 0) (wC (.int 1)))))) (wNil))))
def psi_flush (A : Ad) : WS := wSeq (wExp (wCall 1 (ph_need_machine A) (wCons (wVar 0) (wNil)))) (wSeq (wExp (wCall 3 (ph_need_margins A) (wCons (wVar 0) (wCons (wVar 1) (wCons (wVar 2) (wNil)))))) (wSeq (wIfS (wNot (wTest (wCall 3 (ph_is_line A) (wCons (wVar 0) (wCons (wVar 3) (wCons (wC (.str (PySem.Str.ofString " "))) (wNil))))))) (wRaise A.xNoText) (wNext)) (wSeq (wSet 4 (wOp wSub (wOp wSub (wVar 2) (wVar 1)) (wOp (wMul false) (wC (.int 2)) (wCallB wLen (wCons (wVar 3) (wNil)))))) (wSeq (wIfS (wTest (wOp wLt (wVar 4) (wC (.int 0)))) (wRaise A.xTooWide) (wNext)) (wRet (wCallB wTuple (wCons (wOp (wAdd false) (wCall 1 (ph_on A) (wCons (wVar 4) (wNil))) (wFrz (wCall 1 (ph_keys_of A) (wCons (wVar 3) (wNil))))) (wNil))))))))
def psi_centred (A : Ad) : WS := wSeq (wExp (wCall 1 (ph_need_machine A) (wCons (wVar 0) (wNil)))) (wSeq (wExp (wCall 3 (ph_need_margins A) (wCons (wVar 0) (wCons (wVar 1) (wCons (wVar 2) (wNil)))))) (wSeq (wIfS (wNot (wTest (wCall 3 (ph_is_line A) (wCons (wVar 0) (wCons (wVar 3) (wCons (wC (.str (PySem.Str.ofString " "))) (wNil))))))) (wRaise A.xNoText) (wNext)) (wSeq (wSet 4 (wOp wSub (wOp wSub (wVar 2) (wVar 1)) (wOp (wMul false) (wC (.int 2)) (wCallB wLen (wCons (wVar 3) (wNil)))))) (wSeq (wIfS (wTest (wOp wLt (wVar 4) (wC (.int 0)))) (wRaise A.xTooWide) (wNext)) (wRet (wCallB wTuple (wCons (wOp (wAdd false) (wCall 1 (ph_on A) (wCons (wOp wDiv (wVar 4) (wC (.int 2))) (wNil))) (wFrz (wCall 1 (ph_keys_of A) (wCons (wVar 3) (wNil))))) (wNil))))))))
end DL
end
section
set_option maxHeartbeats 0
namespace DL
open PySem
variable {A : Ad} (hA : AdOk A)
include hA
theorem dt_keys_of : ∀ ds m R x, ph_keys_of A ds m R x → psi_keys_of A (startD 3 ds) m (endD R x) := by
  rintro ds m R x ⟨s, rfl, hl, h⟩
  simp [psi_keys_of, asI]
  intro a na
  refine for_inv (fun ds r m' => ∃ dn rest v, s.cps.toList = dn ++ rest ∧ ds = rest.map ch ∧ r = [some (.str s), some (.ref a), v] ∧ m' = sup m a (.lst (keysOf dn))) _ _ _ ⟨[], s.cps.toList, none, rfl, by simp, rfl, rfl⟩ ?_ ?_
  · rintro d ds r m' ⟨dn, rest, v, e1, e2, rfl, rfl⟩ P hP
    cases rest with
    | nil => cases e2
    | cons c rest =>
      simp at e2
      obtain ⟨rfl, rfl⟩ := e2
      refine ⟨trivial, ?_⟩
      have hlen : (keysOf dn).length ≤ 3000 := by
        have := keysOf_len dn
        have : dn.length ≤ s.length := by
          have : s.length = s.cps.toList.length := by simp [PySem.Str.length]
          rw [this, e1]; simp
        omega
      have nx : ∀ u, u = keysOf dn ++ keyOf c → P [some (.str s), some (.ref a), some (ch c)] (sup m a (.lst u)) := by
        rintro u rfl
        refine hP _ _ ⟨dn ++ [c], rest, _, by rw [e1]; simp, rfl, rfl, by rw [keysOf_snoc]⟩
      simp [wEq, wIn, wInB]
      have hg : (c ∈ G_GREAT.cps) ↔ 65 ≤ c ∧ c < 91 := by
        rw [← Array.mem_toList_iff, great_cs hA, List.mem_range'_1]
      by_cases h1 : c = 32
      · subst h1
        simp [tyM, sup_same, wAppend, sup_sup]
        exact ⟨by decide, by rw [LIMv]; omega, nx _ (by simp [keyOf, k1, wordD])⟩
      · by_cases h2 : 65 ≤ c ∧ c < 91
        · simp [h1, hg, h2, tyM, sup_same]
          refine ⟨by decide, c, rfl, by decide, by decide, ?_⟩
          simp [wExtend, sup_same, asL, sup_sup]
          refine ⟨by rw [LIMv]; omega, nx _ ?_⟩
          have e : loC c = c + 32 := by unfold loC; rw [if_pos (by omega)]
          have h3 : 65 ≤ c ∧ c ≤ 90 := by omega
          simp [keyOf, k1, wordD, h1, h3, e, kS]
        · have h3 : ¬ (65 ≤ c ∧ c ≤ 90) := by omega
          simp [h1, hg, h2, tyM, sup_same, wAppend, sup_sup]
          exact ⟨by decide, by rw [LIMv]; omega, nx _ (by simp [keyOf, kS, wordD, h1, h3])⟩
  · rintro r m' ⟨dn, rest, v, e1, e2, rfl, rfl⟩
    have e3 : rest = [] := by cases rest with | nil => rfl | cons a b => cases e2
    subst e3
    refine ⟨trivial, ?_⟩
    simp
    rw [List.append_nil] at e1
    rw [e1] at h
    exact h a na
theorem dt_on : ∀ ds m R x, ph_on A ds m R x → psi_on A (startD 1 ds) m (endD R x) := by
  rintro ds m R x ⟨n, rfl, h0, h1, h⟩
  have L : LIM = 16777216 := rfl
  simp [psi_on, wDiv, wMod, wMul, asL, wAdd, repD_one]
  refine ⟨by omega, by omega, by omega, by omega, by omega, by omega, by omega, by omega, by omega, ?_⟩
  exact h
theorem dt_is_line : ∀ ds m R x, ph_is_line A ds m R x → psi_is_line A (startD 4 ds) m (endD R x) := by
  rintro ds m R x ⟨c, dead, dn, d, more, rfl, ht, hl, hm, h⟩
  simp [psi_is_line, wIsi]
  have L : LIM = 16777216 := rfl
  cases d with
  | str s =>
    have hl := hl s rfl
    simp [tyN, isiN, wLen, hl, wLe]
    by_cases h1 : 1 ≤ s.length
    · by_cases h2 : s.length ≤ 40
      · have h1' : (1 : Int) ≤ (s.length : Int) := by omega
        have h2' : (s.length : Int) ≤ 40 := by omega
        simp only [h1', h2', asI, decide_true, Bool.not_true, Bool.false_eq_true, if_false]
        have h3 : s.cps.toList.length ≤ LIM := by
          have : s.cps.toList.length = s.length := by simp [PySem.Str.length]
          omega
        refine lc_map (G := fun _ => True) ch (fun k => .bl (decide (k ∈ (G_SIGNS ++ G_GREAT ++ more).cps.toList) && decide (k ∉ dead))) trivial s.cps.toList [] _ (by simpa using h3) (fun k hk K1 hK => ?_) ?_
        · have hz : (G_SIGNS ++ G_GREAT).length = 68 := by decide +kernel
          have hs : G_SIGNS.length + G_GREAT.length ≤ LIM := by decide +kernel
          simp [wAdd, hs, hz]
          refine ⟨by omega, ?_⟩
          simp only [wIn, wInB]
          refine ⟨k, rfl, ?_⟩
          by_cases hk2 : k ∈ (G_SIGNS ++ G_GREAT ++ more).cps.toList
          · simp only [hk2, decide_true]
            refine in_dead hA (b := true) ?_
            simpa [hk2] using hK
          · simp only [hk2, decide_false]
            simpa [hk2] using hK
        · rw [List.nil_append]
          show wAll _ m R
          have e : (s.cps.toList.map fun k => D.bl (decide (k ∈ (G_SIGNS ++ G_GREAT ++ more).cps.toList) && decide (k ∉ dead))) = (s.cps.toList.map fun k => decide (k ∈ (G_SIGNS ++ G_GREAT ++ more).cps.toList) && decide (k ∉ dead)).map .bl := by simp
          rw [e]
          refine all_lst ?_
          simpa [lineB, h1, h2, List.all_map, Function.comp] using h
      · have h1' : (1 : Int) ≤ (s.length : Int) := by omega
        have h2' : ¬ (s.length : Int) ≤ 40 := by omega
        simp [h1', h2']
        simpa [lineB, h1, h2] using h
    · have h1' : ¬ (1 : Int) ≤ (s.length : Int) := by omega
      simp [h1']
      simpa [lineB, h1] using h
  | ref a =>
    simp [tyN] at ht ⊢
    cases e : m a with
    | none => simp [e] at ht
    | some o => cases o <;> simp [e, isiN, lineB] at ht h ⊢ <;> exact h
  | _ => simp [tyN, isiN, lineB] at ht h ⊢ <;> exact h
theorem dt_fl (half : Bool) {w : WE} (hw : ∀ (r : Env) m R x (n : Int), get r 4 = some (.int n) → (0 ≤ n → R (.int (if half then n / 2 else n)) m) → 0 ≤ n → w r m R x) : ∀ ds m R x, phFl half A ds m R x → 
    (wSeq (wExp (wCall 1 (ph_need_machine A) (wCons (wVar 0) (wNil)))) (wSeq (wExp (wCall 3 (ph_need_margins A) (wCons (wVar 0) (wCons (wVar 1) (wCons (wVar 2) (wNil)))))) (wSeq (wIfS (wNot (wTest (wCall 3 (ph_is_line A) (wCons (wVar 0) (wCons (wVar 3) (wCons (wC (.str (PySem.Str.ofString " "))) (wNil))))))) (wRaise A.xNoText) (wNext)) (wSeq (wSet 4 (wOp wSub (wOp wSub (wVar 2) (wVar 1)) (wOp (wMul false) (wC (.int 2)) (wCallB wLen (wCons (wVar 3) (wNil)))))) (wSeq (wIfS (wTest (wOp wLt (wVar 4) (wC (.int 0)))) (wRaise A.xTooWide) (wNext)) (wRet (wCallB wTuple (wCons (wOp (wAdd false) (wCall 1 (ph_on A) (wCons w (wNil))) (wFrz (wCall 1 (ph_keys_of A) (wCons (wVar 3) (wNil))))) (wNil))))))))) (startD 5 ds) m (endD R x) := by
  rintro ds m R x ⟨dm, l, r, t, rfl, h⟩
  have L : LIM = 16777216 := rfl
  simp
  refine ⟨dm, rfl, h.imp fun c dead dn e hM hR => ?_⟩
  subst e
  clear h
  have h := hR
  obtain ⟨hl, hr, ht, hs, h⟩ := h
  refine ⟨_, _, _, _, _, rfl, hM, hl, hr, ?_⟩
  cases h1 : marB (2 * c) l r with
  | false => simp [flushO, h1, Ad.cls] at h ⊢; exact h
  | true =>
    simp only [if_true]
    refine ⟨_, _, _, _, _, rfl, ht, hs, by decide, ?_⟩
    cases h2 : lineB dead t ⟨#[32]⟩ with
    | false => simp [flushO, h1, h2, Ad.cls] at h ⊢; exact h
    | true =>
      obtain ⟨a, b, rfl, rfl, ha, hb, hab⟩ : ∃ a b, l = .int a ∧ r = .int b ∧ 0 ≤ a ∧ b ≤ 2 * c ∧ a < b := by
        cases l <;> cases r <;> simp [marB, wholeB] at h1
        rename_i a b
        exact ⟨a, b, rfl, rfl, h1.1.1.1, h1.1.2.2, h1.2⟩
      obtain ⟨s, rfl⟩ : ∃ s, t = .str s := by cases t <;> simp [lineB] at h2; exact ⟨_, rfl⟩
      have hs := hs s rfl
      have hs40 : s.length ≤ 40 := by simp [lineB] at h2; omega
      simp only [flushO, h1, h2, if_true] at h
      have hc := hM.hi
      simp [wSub, wLen, hs, wMul, wLt]
      by_cases h3 : b - a - 2 * (s.length : Int) < 0
      · simp [h3, Ad.cls] at h ⊢
        exact h
      · simp [h3] at h ⊢
        refine hw _ _ _ _ (b - a - 2 * (s.length : Int)) (by simp) (fun h0 => ?_) (by omega)
        try simp
        refine ⟨_, rfl, by split <;> omega, by split <;> omega, ?_⟩
        refine ⟨s, rfl, by omega, fun ka nka => ?_⟩
        refine ⟨ka, rfl, _, sup_same, ?_⟩
        rw [sdel_sup nka]
        have k1 := keysOf_len s.cps.toList
        have k2 : s.cps.toList.length = s.length := by simp [PySem.Str.length]
        have k3 : (onD (if half = true then (b - a - 2 * (s.length : Int)) / 2 else b - a - 2 * (s.length : Int))).length ≤ 2000 := by
          simp only [onD, List.length_append, List.length_replicate]
          split <;> omega
        refine ⟨_, _, rfl, rfl, by omega, ?_⟩
        simp [wTuple, asQ, asL]
        exact h
theorem dt_flush : ∀ ds m R x, ph_flush A ds m R x → psi_flush A (startD 5 ds) m (endD R x) := fun ds m R x h => dt_fl hA false (fun r m R x n e h h0 => by simp [e]; simpa using h h0) ds m R x h
theorem dt_centred : ∀ ds m R x, ph_centred A ds m R x → psi_centred A (startD 5 ds) m (endD R x) := fun ds m R x h => dt_fl hA true (fun r m R x n e h h0 => by simp [e, wDiv]; simpa using h h0) ds m R x h
end DL
end
section
set_option maxHeartbeats 0
namespace DL
open PySem
def psi__law_cell_at (A : Ad) : WS := wSeq (wIfS (wTest (wOp wLt (wVar 1) (wCallB wLen (wCons (wVar 0) (wNil))))) (wRet (wOp wIx (wVar 0) (wVar 1))) (wNext)) (wSeq (wIfS (wTest (wOp wEqS (wVar 0) (wLst false (wNil)))) (wRet (wC (.int 0))) (wNext)) (wRet (wOp (wAdd false) (wOp (wMul false) (wOp wIx (wVar 0) (wOp wMod (wVar 1) (wCallB wLen (wCons (wVar 0) (wNil))))) (wC (.int 31))) (wVar 1))))
def psi__law_mixed (A : Ad) : WS := wSeq (wSet 3 (wOp wMod (wOp (wAdd false) (wOp (wAdd false) (wOp (wMul false) (wCall 2 (ph__law_cell_at A) (wCons (wVar 0) (wCons (wVar 1) (wNil)))) (wC (.int 1103515245))) (wOp (wMul false) (wC (.int 7919)) (wVar 1))) (wC (.int 12345))) (wC (.int 2147483647)))) (wRet (wOp wMod (wOp wMod (wOp wMod (wOp wPow (wVar 3) (wC (.int 5))) (wC (.int 2147483647))) (wC (.int 999983))) (wVar 2)))
def psi__law_draw (A : Ad) : WS := wSeq (wExp (wMt "list" wAppend (wVar 1) (wCons (wC (.int 0)) (wNil)))) (wRet (wCall 3 (ph__law_mixed A) (wCons (wVar 0) (wCons (wCallB wLen (wCons (wVar 1) (wNil))) (wCons (wVar 2) (wNil))))))
def psi__law_pick (A : Ad) : WS := wRet (wOp wIx (wVar 2) (wCall 3 (ph__law_draw A) (wCons (wVar 0) (wCons (wVar 1) (wCons (wCallB wLen (wCons (wVar 2) (wNil))) (wNil))))))
def psi__law_machine (A : Ad) : WS := wSeq (wSet 2 (wCall 3 (ph__law_pick A) (wCons (wVar 0) (wCons (wVar 1) (wCons (wLst false (wCons (wC (.int 8)) (wCons (wC (.int 9)) (wCons (wC (.int 10)) (wCons (wC (.int 12)) (wCons (wC (.int 20)) (wCons (wC (.int 40)) (wNil)))))))) (wNil)))))) (wSeq (wSet 3 (wCallB wTuple (wCons (wLc false [4] (iSeq (wTup (wCons (wC (.str (PySem.Str.ofString "'"))) (wCons (wC (.str (PySem.Str.ofString "^"))) (wCons (wC (.str (PySem.Str.ofString "~"))) (wNil)))))) (gNm 4) (wTest (wOp wEq (wCall 3 (ph__law_draw A) (wCons (wVar 0) (wCons (wVar 1) (wCons (wC (.int 2)) (wNil))))) (wC (.int 0)))) (wVar 4)) (wNil)))) (wRet (wTup (wCons (wVar 2) (wCons (wVar 3) (wCons (wOp (wAdd false) (wC (.int 2)) (wCall 3 (ph__law_draw A) (wCons (wVar 0) (wCons (wVar 1) (wCons (wC (.int 3)) (wNil)))))) (wNil)))))))
end DL
end
section
set_option maxHeartbeats 0
namespace DL
open PySem
variable {A : Ad} (hA : AdOk A)
include hA
theorem dt__law_cell_at : ∀ ds m R x, ph__law_cell_at A ds m R x → psi__law_cell_at A (startD 2 ds) m (endD R x) := by
  rintro ds m R x ⟨ns, k, rfl, h0, h⟩
  simp [psi__law_cell_at, wLen, asQ, wLt]
  by_cases h1 : k < (ns.length : Int)
  · simp [h1, wIx, asQ]
    obtain ⟨v, hv, e⟩ := atL_some (xs := ns.map D.int) h0 (by simpa using h1)
    rw [e]
    obtain ⟨i, _, rfl⟩ := List.mem_map.mp hv
    exact h i
  · simp [h1, wEqS]
    cases ns with
    | nil => simp; exact h 0
    | cons n ns =>
      have p1 : (0 : Int) < (ns.length : Int) + 1 := by omega
      simp [wMod, wIx, asQ, p1]
      obtain ⟨v, hv, e⟩ := atL_some (xs := D.int n :: ns.map D.int) (i := k % ((ns.length : Int) + 1)) (Int.emod_nonneg _ (by omega)) (by simpa using Int.emod_lt_of_pos _ (by omega))
      rw [e]
      have hv' : v ∈ (n :: ns).map D.int := hv
      obtain ⟨i, _, rfl⟩ := List.mem_map.mp hv'
      simp [wMul, wAdd]
      exact h _
theorem dt__law_mixed : ∀ ds m R x, ph__law_mixed A ds m R x → psi__law_mixed A (startD 4 ds) m (endD R x) := by
  rintro ds m R x ⟨ns, k, n, rfl, h0, h1, h⟩
  simp [psi__law_mixed]
  refine ⟨_, _, rfl, h0, fun v => ?_⟩
  simp [wMul, wAdd, wMod]
  have e0 := Int.emod_nonneg (v * 1103515245 + 7919 * k + 12345) (b := 2147483647) (by decide)
  have e1 := Int.emod_lt_of_pos (v * 1103515245 + 7919 * k + 12345) (b := 2147483647) (by decide)
  generalize (v * 1103515245 + 7919 * k + 12345) % 2147483647 = d at e0 e1
  simp [wPow, wMod]
  refine ⟨by omega, h1, h _ (Int.emod_nonneg _ (by omega)) (Int.emod_lt_of_pos _ h1)⟩
theorem dt__law_draw : ∀ ds m R x, ph__law_draw A ds m R x → psi__law_draw A (startD 3 ds) m (endD R x) := by
  rintro ds m R x ⟨ns, t, n, us, rfl, h0, h1, h2, h⟩
  simp [psi__law_draw, tyM, h1, wAppend]
  refine ⟨h2, ?_⟩
  simp [wLen, asQ, asL, sup_same]
  refine ⟨_, _, _, rfl, by omega, h0, fun v v0 v1 => h v _ v0 v1 (by simp)⟩
theorem dt__law_pick : ∀ ds m R x, ph__law_pick A ds m R x → psi__law_pick A (startD 3 ds) m (endD R x) := by
  rintro ds m R x ⟨ns, t, d, us, rfl, h1, h2, h⟩
  have seq : ∀ xs : List D, (asQ m d = some xs ∧ ∀ us' : List D, asQ (sup m t (.lst us')) d = some xs) → (∀ s, d ≠ .str s) → xs ≠ [] → (∀ v us', v ∈ xs → us'.length = us.length + 1 → R v (sup m t (.lst us'))) → psi__law_pick A (startD 3 [.scr ns, .ref t, d]) m (endD R x) := by
    intro xs hq hd hne hR
    have l0 : 0 < xs.length := by cases xs with | nil => exact absurd rfl hne | cons a b => simp
    simp [psi__law_pick]
    have w1 : wLen [d] m = fun R => R (.int (xs.length : Nat)) m := by
      funext R
      cases d <;> simp [wLen, hq.1] 
      exact absurd rfl (hd _)
    rw [w1]
    refine ⟨_, _, _, _, rfl, by omega, h1, h2, fun v us' v0 v1 hu => ?_⟩
    obtain ⟨z, hz, e⟩ := atL_some (xs := xs) v0 (by omega)
    have w2 : wIx d (.int v) (sup m t (.lst us')) R = R z (sup m t (.lst us')) := by
      cases d <;> simp [wIx, hq.2 us', e]
      exact absurd rfl (hd _)
    show wIx d (.int v) (sup m t (.lst us')) R
    rw [w2]
    exact hR z us' hz hu
  cases d with
  | str s =>
    obtain ⟨h3, h4, h5⟩ := h
    simp [psi__law_pick, wLen, h3]
    refine ⟨_, _, _, _, rfl, by omega, h1, h2, fun v us' v0 v1 hu => ?_⟩
    have hl : s.cps.toList.length = s.length := by simp [PySem.Str.length]
    obtain ⟨z, hz, e⟩ := atL_some (xs := s.cps.toList) v0 (by omega)
    simp only [wIx]
    refine ⟨h3, ?_⟩
    rw [e]
    exact h5 z us' hz hu
  | tup xs => exact seq xs ⟨rfl, fun _ => rfl⟩ (by simp) h.1 h.2
  | lst xs => exact seq xs ⟨rfl, fun _ => rfl⟩ (by simp) h.1 h.2
  | ref a =>
    obtain ⟨hne, xs, ha, h3, h4⟩ := h
    exact seq xs ⟨by simp [asQ, asL, ha], fun us' => by simp [asQ, asL, sup_ne hne, ha]⟩ (by simp) h3 h4
  | _ => exact h.elim
theorem dt__law_machine : ∀ ds m R x, ph__law_machine A ds m R x → psi__law_machine A (startD 5 ds) m (endD R x) := by
  rintro ds m R x ⟨ns, t, us, rfl, h1, h2, h⟩
  have L : LIM = 16777216 := rfl
  simp [psi__law_machine]
  refine ⟨by decide, _, _, _, _, rfl, h1, by omega, ?_⟩
  refine ⟨by simp, fun v us1 hv hu1 => ?_⟩
  obtain ⟨c, rfl, hc⟩ : ∃ c : Int, v = .int c ∧ 8 ≤ c ∧ c ≤ 40 := by
    simp at hv
    rcases hv with e | e | e | e | e | e <;> subst e <;> exact ⟨_, rfl, by decide, by decide⟩
  simp [asI]
  refine ⟨by decide, ?_⟩
  have step : ∀ (G : Store → Prop) (K : List D → Store → Prop) (k : Nat) (rest acc : List D) (us' : List D), (∀ m, G m) → us'.length < us.length + 4 → acc.length < 3 → (∀ us'' : List D, us''.length = us'.length + 1 → wLcL G [4] (gNm 4) (wTest (wOp wEq (wCall 3 (ph__law_draw A) (wCons (wVar 0) (wCons (wVar 1) (wCons (wC (.int 2)) (wNil))))) (wC (.int 0)))) (wVar 4) [some (.scr ns), some (.ref t), some (.int c), none, none] rest (acc ++ [ch k]) (sup m t (.lst us'')) K) →
      (∀ us'' : List D, us''.length = us'.length + 1 → wLcL G [4] (gNm 4) (wTest (wOp wEq (wCall 3 (ph__law_draw A) (wCons (wVar 0) (wCons (wVar 1) (wCons (wC (.int 2)) (wNil))))) (wC (.int 0)))) (wVar 4) [some (.scr ns), some (.ref t), some (.int c), none, none] rest acc (sup m t (.lst us'')) K) →
      wLcL G [4] (gNm 4) (wTest (wOp wEq (wCall 3 (ph__law_draw A) (wCons (wVar 0) (wCons (wVar 1) (wCons (wC (.int 2)) (wNil))))) (wC (.int 0)))) (wVar 4) [some (.scr ns), some (.ref t), some (.int c), none, none] (ch k :: rest) acc (sup m t (.lst us')) K := by
    intro G K k rest acc us' hG hu ha s1 s2
    refine ⟨hG _, ?_⟩
    simp
    refine ⟨_, _, _, _, rfl, by decide, sup_same, by omega, fun v us'' v0 v1 hu'' => ?_⟩
    rw [sup_sup]
    simp [wEq]
    by_cases e : v = 0
    · simp [e]
      exact ⟨by omega, s1 us'' hu''⟩
    · simp [e]
      exact s2 us'' hu''
  have fin : ∀ (dead : List Nat) (us' : List D), dead ∈ deads → us'.length = us.length + 4 → wTuple [.lst (dead.map ch)] (sup m t (.lst us')) (fun u m1 => ph__law_draw A [.scr ns, .ref t, .int 3] m1 (fun v m2 => wAdd false (.int 2) v m2 fun u_1 m2 => 3 ≤ LIM ∧ R (.tup [.int c, u, u_1]) m2) x) := by
    intro dead us' hd hu'
    simp [wTuple, asQ, asL]
    refine ⟨_, _, _, _, rfl, by decide, sup_same, by omega, fun v us'' v0 v1 hu'' => ?_⟩
    rw [sup_sup]
    simp [wAdd]
    refine ⟨by decide, ?_⟩
    exact h c dead (2 + v) us'' ⟨hc.1, hc.2, hd, by omega, by omega⟩ (by omega)
  have hT : ∀ m : Store, True := fun _ => trivial
  refine step _ _ 39 _ _ _ hT (by omega) (by simp) (fun us2 e2 => ?_) (fun us2 e2 => ?_) <;>
  refine step _ _ 94 _ _ _ hT (by omega) (by simp) (fun us3 e3 => ?_) (fun us3 e3 => ?_) <;>
  refine step _ _ 126 _ _ _ hT (by omega) (by simp) (fun us4 e4 => ⟨trivial, ?_⟩) (fun us4 e4 => ⟨trivial, ?_⟩)
  · exact fin [39, 94, 126] us4 (by simp [deads]) (by omega)
  · exact fin [39, 94] us4 (by simp [deads]) (by omega)
  · exact fin [39, 126] us4 (by simp [deads]) (by omega)
  · exact fin [39] us4 (by simp [deads]) (by omega)
  · exact fin [94, 126] us4 (by simp [deads]) (by omega)
  · exact fin [94] us4 (by simp [deads]) (by omega)
  · exact fin [126] us4 (by simp [deads]) (by omega)
  · exact fin [] us4 (by simp [deads]) (by omega)
end DL
end
section
set_option maxHeartbeats 0
namespace DL
open PySem
def psi__law_new (A : Ad) : WS := wSeq (wSet 2 (wOp (wMul false) (wC (.int 2)) (wOp wIx (wVar 0) (wC (.int 0))))) (wSeq (wSet 3 (wDisp [(wC (.str (PySem.Str.ofString "machine")), wVar 0), (wC (.str (PySem.Str.ofString "end")), wVar 2), (wC (.str (PySem.Str.ofString "row")), wC (.int 0)), (wC (.str (PySem.Str.ofString "place")), wC (.int 0)), (wC (.str (PySem.Str.ofString "low")), wC (.int 0)), (wC (.str (PySem.Str.ofString "high")), wVar 2), (wC (.str (PySem.Str.ofString "tabs")), wCallB (wList true) (wCons (wVar 1) (wNil)))])) (wSeq (wExp (wMt "dict" wUpdate (wVar 3) (wCons (wDisp [(wC (.str (PySem.Str.ofString "red")), wC (.bl false)), (wC (.str (PySem.Str.ofString "caps")), wC (.bl false)), (wC (.str (PySem.Str.ofString "free")), wC (.bl false)), (wC (.str (PySem.Str.ofString "marks")), wLst true (wNil)), (wC (.str (PySem.Str.ofString "rings")), wLst true (wNil)), (wC (.str (PySem.Str.ofString "many")), wC (.int 0))]) (wNil)))) (wRet (wFgt (wVar 3)))))
def psi__law_shut (A : Ad) : WS := wRet (wOrV (wOp wGt (wVar 1) (wOp wDGet (wVar 0) (wC (.str (PySem.Str.ofString "end"))))) (wAndV (wNotV (wOp wDGet (wVar 0) (wC (.str (PySem.Str.ofString "free"))))) (wOp wGt (wVar 1) (wOp wDGet (wVar 0) (wC (.str (PySem.Str.ofString "high")))))))
def psi__law_go (A : Ad) : WS := wSeq (wSet 2 (wOp wSub (wOp wDGet (wVar 0) (wC (.str (PySem.Str.ofString "high")))) (wC (.int 10)))) (wSeq (wIfS (wAnd (wTest (wOp wLt (wOp wDGet (wVar 0) (wC (.str (PySem.Str.ofString "place")))) (wVar 2))) (wTest (wOp wGe (wVar 1) (wVar 2)))) (wExp (wMt "list" wAppend (wOp wDGet (wVar 0) (wC (.str (PySem.Str.ofString "rings")))) (wCons (wOp wDGet (wVar 0) (wC (.str (PySem.Str.ofString "many")))) (wNil)))) (wNext)) (wSeq (wDPut (wVar 0) (wC (.str (PySem.Str.ofString "place"))) (wVar 1)) (wRet (wTup (wCons (wC (.str (PySem.Str.ofString "moved"))) (wCons (wOp wDGet (wVar 0) (wC (.str (PySem.Str.ofString "row")))) (wCons (wVar 1) (wNil))))))))
def psi__law_as (A : Ad) : WS := wRet (wIf (wTest (wOp wDGet (wVar 0) (wC (.str (PySem.Str.ofString "caps"))))) (wMt "str" wUpper (wVar 1) wNil) (wVar 1))
def psi__law_ink_t7 (A : Ad) : WS := wRet (wVar 6)
def psi__law_ink_t6 (A : Ad) : WS := wSeq (wIfS (wTest (wOp wNotIn (wVar 2) (wOp wIx (wOp wDGet (wVar 0) (wC (.str (PySem.Str.ofString "machine")))) (wC (.int 1))))) (wExp (wCall 2 (ph__law_go A) (wCons (wVar 0) (wCons (wOp (wAdd false) (wOp wDGet (wVar 0) (wC (.str (PySem.Str.ofString "place")))) (wC (.int 2))) (wNil))))) (wNext)) (psi__law_ink_t7 A)
def psi__law_ink_t5 (A : Ad) : WS := wSeq (wIfS (wTest (wOp wEq (wVar 1) (wC (.str (PySem.Str.ofString "sign"))))) (wExp (wMt "list" wAppend (wOp wDGet (wVar 0) (wC (.str (PySem.Str.ofString "marks")))) (wCons (wOp (wAdd false) (wTup (wCons (wOp wDGet (wVar 0) (wC (.str (PySem.Str.ofString "many")))) (wNil))) (wVar 4)) (wNil)))) (wIfS (wTest (wOp wEq (wVar 5) (wLst false (wNil)))) (wSet 6 (wOp (wAdd false) (wTup (wCons (wC (.str (PySem.Str.ofString "nothing"))) (wNil))) (wVar 3))) (wSeq (wExp (wMt "list" wRemD (wOp wDGet (wVar 0) (wC (.str (PySem.Str.ofString "marks")))) (wCons (wOp wIx (wVar 5) (wUn wNeg (wC (.int 1)))) (wNil)))) (wSet 6 (wOp (wAdd false) (wTup (wCons (wC (.str (PySem.Str.ofString "lifted"))) (wNil))) (wSl (wCut false) (wOp wIx (wVar 5) (wUn wNeg (wC (.int 1)))) (oSome (wC (.int 1))) (oNone))))))) (psi__law_ink_t6 A)
def psi__law_ink_t4 (A : Ad) : WS := wSeq (wSet 6 (wOp (wAdd false) (wTup (wCons (wC (.str (PySem.Str.ofString "struck"))) (wNil))) (wVar 4))) (psi__law_ink_t5 A)
def psi__law_ink_t3 (A : Ad) : WS := wSeq (wSet 5 (wLc false [7] (iSeq (wOp wDGet (wVar 0) (wC (.str (PySem.Str.ofString "marks"))))) (gNm 7) (wTest (wOp wEq (wSl (wCut false) (wVar 7) (oSome (wC (.int 1))) (oSome (wC (.int 4)))) (wSl (wCut false) (wVar 4) (oNone) (oSome (wC (.int 3)))))) (wVar 7))) (psi__law_ink_t4 A)
def psi__law_ink_t2 (A : Ad) : WS := wSeq (wSet 4 (wOp (wAdd false) (wVar 3) (wTup (wCons (wCall 2 (ph__law_as A) (wCons (wVar 0) (wCons (wVar 2) (wNil)))) (wCons (wIf (wTest (wOp wDGet (wVar 0) (wC (.str (PySem.Str.ofString "red"))))) (wC (.str (PySem.Str.ofString "red"))) (wC (.str (PySem.Str.ofString "black")))) (wNil)))))) (psi__law_ink_t3 A)
def psi__law_ink_t1 (A : Ad) : WS := wSeq (wSet 3 (wTup (wCons (wOp wDGet (wVar 0) (wC (.str (PySem.Str.ofString "row")))) (wCons (wOp wDGet (wVar 0) (wC (.str (PySem.Str.ofString "place")))) (wNil))))) (psi__law_ink_t2 A)
def psi__law_ink (A : Ad) : WS := wSeq (wIfS (wTest (wCall 2 (ph__law_shut A) (wCons (wVar 0) (wCons (wOp (wAdd false) (wOp wDGet (wVar 0) (wC (.str (PySem.Str.ofString "place")))) (wC (.int 2))) (wNil))))) (wRet (wTup (wCons (wC (.str (PySem.Str.ofString "locked"))) (wNil)))) (wNext)) (psi__law_ink_t1 A)
def psi__law_turn_t2 (A : Ad) : WS := wRet (wTup (wCons (wC (.str (PySem.Str.ofString "done"))) (wNil)))
def psi__law_turn_t1 (A : Ad) : WS := wSeq (wIfS (wAnd (wTest (wOp wEq (wVar 1) (wC (.str (PySem.Str.ofString "left"))))) (wTest (wOp wLt (wVar 2) (wOp wDGet (wVar 0) (wC (.str (PySem.Str.ofString "high"))))))) (wDPut (wVar 0) (wC (.str (PySem.Str.ofString "low"))) (wVar 2)) (wIfS (wAnd (wTest (wOp wEq (wVar 1) (wC (.str (PySem.Str.ofString "right"))))) (wTest (wOp wGt (wVar 2) (wOp wDGet (wVar 0) (wC (.str (PySem.Str.ofString "low"))))))) (wDPut (wVar 0) (wC (.str (PySem.Str.ofString "high"))) (wVar 2)) (wIfS (wTest (wOp wEq (wVar 1) (wC (.str (PySem.Str.ofString "set"))))) (wDPut (wVar 0) (wC (.str (PySem.Str.ofString "tabs"))) (wOp (wAdd true) (wLc false [4] (iSeq (wOp wDGet (wVar 0) (wC (.str (PySem.Str.ofString "tabs"))))) (gNm 4) (wTest (wOp wNe (wVar 4) (wVar 2))) (wVar 4)) (wLst false (wCons (wVar 2) (wNil))))) (wIfS (wAnd (wTest (wOp wEq (wVar 1) (wC (.str (PySem.Str.ofString "clear"))))) (wTest (wOp wIn (wVar 2) (wOp wDGet (wVar 0) (wC (.str (PySem.Str.ofString "tabs"))))))) (wDPut (wVar 0) (wC (.str (PySem.Str.ofString "tabs"))) (wLc true [4] (iSeq (wOp wDGet (wVar 0) (wC (.str (PySem.Str.ofString "tabs"))))) (gNm 4) (wTest (wOp wNe (wVar 4) (wVar 2))) (wVar 4))) (wIfS (wTest (wOp wIn (wVar 1) (wTup (wCons (wC (.str (PySem.Str.ofString "left"))) (wCons (wC (.str (PySem.Str.ofString "right"))) (wCons (wC (.str (PySem.Str.ofString "clear"))) (wNil))))))) (wRet (wTup (wCons (wC (.str (PySem.Str.ofString "locked"))) (wNil)))) (wIfS (wTest (wOp wEq (wVar 1) (wC (.str (PySem.Str.ofString "all"))))) (wDPut (wVar 0) (wC (.str (PySem.Str.ofString "tabs"))) (wLst true (wNil))) (wSeq (wSet 3 (wDispGet [(wC (.str (PySem.Str.ofString "free")), wC (.str (PySem.Str.ofString "free"))), (wC (.str (PySem.Str.ofString "ribbon")), wC (.str (PySem.Str.ofString "red"))), (wC (.str (PySem.Str.ofString "caps")), wC (.str (PySem.Str.ofString "caps")))] (wVar 1))) (wDPut (wVar 0) (wVar 3) (wOrV (wOp wEq (wVar 1) (wC (.str (PySem.Str.ofString "free")))) (wNotV (wOp wDGet (wVar 0) (wVar 3)))))))))))) (psi__law_turn_t2 A)
def psi__law_turn (A : Ad) : WS := wSeq (wSet 2 (wOp wDGet (wVar 0) (wC (.str (PySem.Str.ofString "place"))))) (psi__law_turn_t1 A)
def psi__law_step_t5 (A : Ad) : WS := wRet (wIf (wTest (wCall 2 (ph__law_shut A) (wCons (wVar 0) (wCons (wVar 4) (wNil))))) (wTup (wCons (wC (.str (PySem.Str.ofString "locked"))) (wNil))) (wCall 2 (ph__law_go A) (wCons (wVar 0) (wCons (wVar 4) (wNil)))))
def psi__law_step_t4 (A : Ad) : WS := wSeq (wIfS (wTest (wOp wEq (wVar 1) (wC (.str (PySem.Str.ofString "tab"))))) (wSet 4 (wCallB wMinL (wCons (wOp (wAdd false) (wLc false [5] (iSeq (wOp wDGet (wVar 0) (wC (.str (PySem.Str.ofString "tabs"))))) (gNm 5) (wTest (wOp wGt (wVar 5) (wVar 2))) (wVar 5)) (wLst false (wCons (wC (.int 999)) (wNil)))) (wNil)))) (wNext)) (psi__law_step_t5 A)
def psi__law_step_t3 (A : Ad) : WS := wSeq (wSet 4 (wOp (wAdd false) (wVar 2) (wIf (wTest (wOp wEq (wVar 1) (wC (.str (PySem.Str.ofString "blank"))))) (wC (.int 2)) (wC (.int 1))))) (psi__law_step_t4 A)
def psi__law_step_t2 (A : Ad) : WS := wSeq (wIfS (wTest (wOp wIn (wVar 1) (wTup (wCons (wC (.str (PySem.Str.ofString "return"))) (wCons (wC (.str (PySem.Str.ofString "up"))) (wCons (wC (.str (PySem.Str.ofString "down"))) (wNil))))))) (wSeq (wSet 3 (wOp (wAdd false) (wOp wDGet (wVar 0) (wC (.str (PySem.Str.ofString "row")))) (wDispGet [(wC (.str (PySem.Str.ofString "return")), wOp wIx (wOp wDGet (wVar 0) (wC (.str (PySem.Str.ofString "machine")))) (wC (.int 2))), (wC (.str (PySem.Str.ofString "up")), wUn wNeg (wC (.int 1))), (wC (.str (PySem.Str.ofString "down")), wC (.int 1))] (wVar 1)))) (wSeq (wIfS (wOr (wTest (wOp wLt (wVar 3) (wC (.int 0)))) (wTest (wOp wGt (wVar 3) (wC (.int 60))))) (wRet (wTup (wCons (wC (.str (PySem.Str.ofString "locked"))) (wNil)))) (wNext)) (wSeq (wDPut (wVar 0) (wC (.str (PySem.Str.ofString "row"))) (wVar 3)) (wSeq (wIfS (wTest (wOp wEq (wVar 1) (wC (.str (PySem.Str.ofString "return"))))) (wSeq (wDPut (wVar 0) (wC (.str (PySem.Str.ofString "place"))) (wOp wDGet (wVar 0) (wC (.str (PySem.Str.ofString "low"))))) (wDPut (wVar 0) (wC (.str (PySem.Str.ofString "free"))) (wC (.bl false)))) (wNext)) (wRet (wTup (wCons (wC (.str (PySem.Str.ofString "moved"))) (wCons (wVar 3) (wCons (wOp wDGet (wVar 0) (wC (.str (PySem.Str.ofString "place")))) (wNil)))))))))) (wNext)) (psi__law_step_t3 A)
def psi__law_step_t1 (A : Ad) : WS := wSeq (wIfS (wTest (wOp wEq (wVar 1) (wC (.str (PySem.Str.ofString "back"))))) (wSeq (wIfS (wOr (wTest (wOp wLt (wVar 2) (wC (.int 2)))) (wAnd (wNot (wTest (wOp wDGet (wVar 0) (wC (.str (PySem.Str.ofString "free")))))) (wTest (wChain wGe wGt (wVar 2) (wOp wDGet (wVar 0) (wC (.str (PySem.Str.ofString "low")))) (wOp wSub (wVar 2) (wC (.int 2))))))) (wRet (wTup (wCons (wC (.str (PySem.Str.ofString "locked"))) (wNil)))) (wNext)) (wSeq (wDPut (wVar 0) (wC (.str (PySem.Str.ofString "place"))) (wOp wSub (wVar 2) (wC (.int 2)))) (wRet (wTup (wCons (wC (.str (PySem.Str.ofString "moved"))) (wCons (wOp wDGet (wVar 0) (wC (.str (PySem.Str.ofString "row")))) (wCons (wOp wSub (wVar 2) (wC (.int 2))) (wNil)))))))) (wNext)) (psi__law_step_t2 A)
def psi__law_step (A : Ad) : WS := wSeq (wSet 2 (wOp wDGet (wVar 0) (wC (.str (PySem.Str.ofString "place"))))) (psi__law_step_t1 A)
def psi__law_press_t2 (A : Ad) : WS := wRet (wVar 2)
def psi__law_press_t1 (A : Ad) : WS := wSeq (wDPut (wVar 0) (wC (.str (PySem.Str.ofString "many"))) (wOp (wAdd false) (wOp wDGet (wVar 0) (wC (.str (PySem.Str.ofString "many")))) (wC (.int 1)))) (psi__law_press_t2 A)
def psi__law_press (A : Ad) : WS := wSeq (wIfS (wTest (wOp wIn (wOp wIx (wVar 1) (wC (.int 0))) (wTup (wCons (wC (.str (PySem.Str.ofString "sign"))) (wCons (wC (.str (PySem.Str.ofString "lift"))) (wNil)))))) (wSet 2 (wCall 3 (ph__law_ink A) (wCons (wVar 0) (wCons (wOp wIx (wVar 1) (wC (.int 0))) (wCons (wOp wIx (wVar 1) (wC (.int 1))) (wNil)))))) (wIfS (wTest (wOp wIn (wOp wIx (wVar 1) (wC (.int 0))) (wTup (wCons (wC (.str (PySem.Str.ofString "left"))) (wCons (wC (.str (PySem.Str.ofString "right"))) (wCons (wC (.str (PySem.Str.ofString "set"))) (wCons (wC (.str (PySem.Str.ofString "clear"))) (wCons (wC (.str (PySem.Str.ofString "all"))) (wCons (wC (.str (PySem.Str.ofString "free"))) (wCons (wC (.str (PySem.Str.ofString "ribbon"))) (wCons (wC (.str (PySem.Str.ofString "caps"))) (wNil)))))))))))) (wSet 2 (wCall 2 (ph__law_turn A) (wCons (wVar 0) (wCons (wOp wIx (wVar 1) (wC (.int 0))) (wNil))))) (wSet 2 (wCall 2 (ph__law_step A) (wCons (wVar 0) (wCons (wOp wIx (wVar 1) (wC (.int 0))) (wNil))))))) (psi__law_press_t1 A)
def psi__law_worked_t2 (A : Ad) : WS := wRet (wTup (wCons (wVar 3) (wCons (wVar 4) (wNil))))
def psi__law_worked_t1 (A : Ad) : WS := wSeq (wSet 4 (wLc false [5] (iSeq (wVar 2)) (gNm 5) (wYes) (wCall 2 (ph__law_press A) (wCons (wVar 3) (wCons (wVar 5) (wNil)))))) (psi__law_worked_t2 A)
def psi__law_worked (A : Ad) : WS := wSeq (wSet 3 (wCall 2 (ph__law_new A) (wCons (wVar 0) (wCons (wVar 1) (wNil))))) (psi__law_worked_t1 A)
end DL
end
section
set_option maxHeartbeats 0
namespace DL
open PySem
section
variable {m : Store} {w ta ma ra : Addr} {s : LW} (hw : m w = some (.dct (wkD s ta ma ra))) (R : KD)
include hw
theorem gt_of {n : String} {v : D} (hk : lookK (wkD s ta ma ra) (key n) = some v) : wDGet (.ref w) (.str (PySem.Str.ofString n)) m R = R v m := by
  apply propext
  constructor
  · rintro ⟨kvs, e, h⟩
    rw [hw] at e
    cases e
    have e2 : keyD (.str (PySem.Str.ofString n)) = some (key n) := rfl
    rw [e2] at h
    simp [hk] at h
    exact h
  · intro h
    refine ⟨_, hw, ?_⟩
    have e2 : keyD (.str (PySem.Str.ofString n)) = some (key n) := rfl
    rw [e2]
    simp [hk]
    exact h
theorem gt_machine : wDGet (.ref w) (.str (PySem.Str.ofString "machine")) m R = R (machD s.c s.dead s.dn) m := gt_of hw R (by simp [wkD, lookK, key])
theorem gt_end : wDGet (.ref w) (.str (PySem.Str.ofString "end")) m R = R (.int (2 * s.c)) m := gt_of hw R (by simp [wkD, lookK, key])
theorem gt_row : wDGet (.ref w) (.str (PySem.Str.ofString "row")) m R = R (.int s.row) m := gt_of hw R (by simp [wkD, lookK, key])
theorem gt_place : wDGet (.ref w) (.str (PySem.Str.ofString "place")) m R = R (.int s.place) m := gt_of hw R (by simp [wkD, lookK, key])
theorem gt_low : wDGet (.ref w) (.str (PySem.Str.ofString "low")) m R = R (.int s.low) m := gt_of hw R (by simp [wkD, lookK, key])
theorem gt_high : wDGet (.ref w) (.str (PySem.Str.ofString "high")) m R = R (.int s.high) m := gt_of hw R (by simp [wkD, lookK, key])
theorem gt_tabs : wDGet (.ref w) (.str (PySem.Str.ofString "tabs")) m R = R (.ref ta) m := gt_of hw R (by simp [wkD, lookK, key])
theorem gt_red : wDGet (.ref w) (.str (PySem.Str.ofString "red")) m R = R (.bl s.red) m := gt_of hw R (by simp [wkD, lookK, key])
theorem gt_caps : wDGet (.ref w) (.str (PySem.Str.ofString "caps")) m R = R (.bl s.caps) m := gt_of hw R (by simp [wkD, lookK, key])
theorem gt_free : wDGet (.ref w) (.str (PySem.Str.ofString "free")) m R = R (.bl s.free) m := gt_of hw R (by simp [wkD, lookK, key])
theorem gt_marks : wDGet (.ref w) (.str (PySem.Str.ofString "marks")) m R = R (.ref ma) m := gt_of hw R (by simp [wkD, lookK, key])
theorem gt_rings : wDGet (.ref w) (.str (PySem.Str.ofString "rings")) m R = R (.ref ra) m := gt_of hw R (by simp [wkD, lookK, key])
theorem gt_many : wDGet (.ref w) (.str (PySem.Str.ofString "many")) m R = R (.int s.many) m := gt_of hw R (by simp [wkD, lookK, key])
end
section
variable {m0 m : Store} {w ta ma ra : Addr} {s : LW}
theorem wk_len (s : LW) (ta ma ra : Addr) : (wkD s ta ma ra).length < LIM := by show 13 < LIM; decide
theorem Sub.sup {a : Addr} {o : MO} (h : Sub m0 m) (n : m0 a = none) : Sub m0 (sup m a o) := fun b u e => by
  rw [sup_ne (ne_sto e n)]; exact h b u e
theorem WkAt.wt (W : WkAt m0 w m s ta ma ra) : w ≠ ta := by intro e; have := W.hw; rw [e, W.ht] at this; cases this
theorem WkAt.wm (W : WkAt m0 w m s ta ma ra) : w ≠ ma := by intro e; have := W.hw; rw [e, W.hm] at this; cases this
theorem WkAt.wr (W : WkAt m0 w m s ta ma ra) : w ≠ ra := by intro e; have := W.hw; rw [e, W.hr] at this; cases this
theorem WkAt.put (W : WkAt m0 w m s ta ma ra) {s' : LW} (h1 : s'.tabs = s.tabs) (h2 : s'.marks = s.marks) (h3 : s'.rings = s.rings) : WkAt m0 w (sup m w (.dct (wkD s' ta ma ra))) s' ta ma ra :=
  ⟨W.sub.sup W.nw, W.nw, W.nt, W.nm, W.nr, sup_same, by rw [sup_ne W.wt.symm, h1]; exact W.ht, by rw [sup_ne W.wm.symm, h2]; exact W.hm, by rw [sup_ne W.wr.symm, h3]; exact W.hr, W.tm, W.tr, W.mr⟩
theorem WkAt.rings (W : WkAt m0 w m s ta ma ra) (r : List Int) : WkAt m0 w (sup m ra (.lst (r.map .int))) { s with rings := r } ta ma ra :=
  ⟨W.sub.sup W.nr, W.nw, W.nt, W.nm, W.nr, by rw [sup_ne W.wr]; exact W.hw, by rw [sup_ne W.tr]; exact W.ht, by rw [sup_ne W.mr]; exact W.hm, sup_same, W.tm, W.tr, W.mr⟩
theorem WkAt.marks (W : WkAt m0 w m s ta ma ra) (r : List Mk) : WkAt m0 w (sup m ma (.lst (r.map mkD))) { s with marks := r } ta ma ra :=
  ⟨W.sub.sup W.nm, W.nw, W.nt, W.nm, W.nr, by rw [sup_ne W.wm]; exact W.hw, by rw [sup_ne W.tm]; exact W.ht, sup_same, by rw [sup_ne W.mr.symm]; exact W.hr, W.tm, W.tr, W.mr⟩
theorem sup_none {a b : Addr} {o : MO} : sup m a o b = none ↔ b ≠ a ∧ m b = none := by
  by_cases h : b = a
  · subst h; simp [sup_same]
  · rw [sup_ne h]; simp [h]
theorem Sub.none {a : Addr} (h : Sub m0 m) (n : m a = none) : m0 a = none := by
  cases e : m0 a with
  | none => rfl
  | some o => rw [h a o e] at n; cases n
theorem WkAt.tabs (W : WkAt m0 w m s ta ma ra) {a : Addr} (na : m a = none) (r : List Int) : WkAt m0 w (sup (sup m a (.lst (r.map .int))) w (.dct (wkD { s with tabs := r } a ma ra))) { s with tabs := r } a ma ra := by
  have wa : w ≠ a := ne_sto W.hw na
  have ma' : ma ≠ a := ne_sto W.hm na
  have ra' : ra ≠ a := ne_sto W.hr na
  have z := W.sub.none na
  exact ⟨(W.sub.sup z).sup W.nw, W.nw, z, W.nm, W.nr, sup_same, by rw [sup_ne wa.symm, sup_same], by rw [sup_ne W.wm.symm, sup_ne ma']; exact W.hm, by rw [sup_ne W.wr.symm, sup_ne ra']; exact W.hr, ma'.symm, ra'.symm, W.mr⟩
theorem pt_row (v : Int) : putKD (key "row") (.int v) (wkD s ta ma ra) = wkD { s with row := v } ta ma ra := by simp [putKD, wkD, key]
theorem pt_place (v : Int) : putKD (key "place") (.int v) (wkD s ta ma ra) = wkD { s with place := v } ta ma ra := by simp [putKD, wkD, key]
theorem pt_low (v : Int) : putKD (key "low") (.int v) (wkD s ta ma ra) = wkD { s with low := v } ta ma ra := by simp [putKD, wkD, key]
theorem pt_high (v : Int) : putKD (key "high") (.int v) (wkD s ta ma ra) = wkD { s with high := v } ta ma ra := by simp [putKD, wkD, key]
theorem pt_many (v : Int) : putKD (key "many") (.int v) (wkD s ta ma ra) = wkD { s with many := v } ta ma ra := by simp [putKD, wkD, key]
theorem pt_red (v : Bool) : putKD (key "red") (.bl v) (wkD s ta ma ra) = wkD { s with red := v } ta ma ra := by simp [putKD, wkD, key]
theorem pt_caps (v : Bool) : putKD (key "caps") (.bl v) (wkD s ta ma ra) = wkD { s with caps := v } ta ma ra := by simp [putKD, wkD, key]
theorem pt_free (v : Bool) : putKD (key "free") (.bl v) (wkD s ta ma ra) = wkD { s with free := v } ta ma ra := by simp [putKD, wkD, key]
theorem pt_tabs (a : Addr) (r : List Int) : putKD (key "tabs") (.ref a) (wkD s ta ma ra) = wkD { s with tabs := r } a ma ra := by simp [putKD, wkD, key]
@[simp] theorem keyD_str (n : String) : keyD (.str (PySem.Str.ofString n)) = some (key n) := rfl
end
variable {A : Ad} (hA : AdOk A)
include hA
theorem dt__law_shut : ∀ ds m R x, ph__law_shut A ds m R x → psi__law_shut A (startD 2 ds) m (endD R x) := by
  rintro ds m R x ⟨w, p, m0, s, rfl, ⟨ta, ma, ra, W⟩, h⟩
  simp [psi__law_shut, gt_end W.hw, gt_free W.hw, gt_high W.hw, wGt]
  simp only [shutL] at h
  by_cases h1 : 2 * s.c < p
  · simpa [h1] using h
  · cases h2 : s.free
    · simpa [h1, h2] using h
    · simpa [h1, h2] using h
theorem dt__law_go : ∀ ds m R x, ph__law_go A ds m R x → psi__law_go A (startD 3 ds) m (endD R x) := by
  rintro ds m R x ⟨w, p, m0, s, rfl, ⟨ta, ma, ra, W⟩, hl, h⟩
  simp [psi__law_go, gt_high W.hw, gt_place W.hw, wSub, wLt, wGe]
  have fin : ∀ (m1 : Store) (s1 : LW), WkAt m0 w m1 s1 ta ma ra → { s1 with place := p } = goL s p → s1.row = s.row → (∃ kvs, m1 w = some (.dct kvs) ∧ kvs.length < LIM ∧ wDGet (.ref w) (.str (PySem.Str.ofString "row")) (sup m1 w (.dct (putKD (key "place") (.int p) kvs))) fun u m1 => 3 ≤ LIM ∧ R (.tup [.str (PySem.Str.ofString "moved"), u, .int p]) m1) := by
    intro m1 s1 W1 e1 e2
    refine ⟨_, W1.hw, wk_len _ _ _ _, ?_⟩
    rw [pt_place]
    have W2 := W1.put (s' := { s1 with place := p }) rfl rfl rfl
    rw [gt_row W2.hw]
    refine ⟨by decide, ?_⟩
    rw [e1] at W2
    have := h _ ⟨ta, ma, ra, W2⟩
    rw [← e2] at this
    show R (movedD s1.row p) _
    rw [e1]
    exact this
  by_cases h1 : s.place < s.high - 10
  · by_cases h2 : s.high - 10 ≤ p
    · simp [h1, h2, gt_rings W.hw, gt_many W.hw, tyM, W.hr, wAppend]
      refine ⟨hl, ?_⟩
      have W1 := W.rings (s.rings ++ [s.many])
      rw [List.map_append] at W1
      exact fin _ _ W1 (by simp [goL, h1, h2]) rfl
    · simp [h1, h2]
      exact fin _ _ W (by simp [goL, h1, h2]) rfl
  · simp [h1]
    exact fin _ _ W (by simp [goL, h1]) rfl
theorem dt__law_as : ∀ ds m R x, ph__law_as A ds m R x → psi__law_as A (startD 2 ds) m (endD R x) := by
  rintro ds m R x ⟨w, c, m0, s, rfl, hc, ⟨ta, ma, ra, W⟩, h⟩
  simp [psi__law_as, gt_caps W.hw]
  simp only [asL1] at h
  cases h1 : s.caps
  · simpa [h1] using h
  · simp [tyM, wUpper]
    exact ⟨hc, by simpa [h1] using h⟩
theorem dt__law_new : ∀ ds m R x, ph__law_new A ds m R x → psi__law_new A (startD 4 ds) m (endD R x) := by
  rintro ds m R x ⟨c, dead, dn, tabs, rfl, hM, h⟩
  simp [psi__law_new, wMul, wList, asQ, keysD]
  intro ta nta w nw
  have e1 : w ≠ ta := by intro e; subst e; rw [sup_same] at nw; cases nw
  have nw' : m w = none := by rwa [sup_ne e1] at nw
  simp [tyM, sup_same]
  intro ma nma ra nra u nu
  rw [sup_none, sup_none] at nma
  rw [sup_none, sup_none, sup_none] at nra
  rw [sup_none, sup_none, sup_none, sup_none] at nu
  obtain ⟨ema2, ema1, nma'⟩ := nma
  obtain ⟨era3, era2, era1, nra'⟩ := nra
  obtain ⟨eur, eum, euw, eut, nu'⟩ := nu
  refine ⟨_, _, fun e => euw e.symm, (by rw [sup_ne euw.symm, sup_ne era2.symm, sup_ne ema2.symm, sup_same]), sup_same, ?_, ?_⟩
  · simp [mergeD, putKD, key]
    decide
  · refine ⟨_, Sub.refl _, h w _ ⟨ta, ma, ra, ⟨?_, nw', nta, nma', nra', ?_, ?_, ?_, ?_, ema1.symm, era1.symm, era3.symm⟩⟩⟩
    · exact ((((Sub.refl m).sup nta).sup nw').sup nma').sup nra' |>.sup nu' |>.sup nw'
    · rw [sup_same]
      simp [mergeD, putKD, key, wkD, newL]
    · rw [sup_ne e1.symm, sup_ne eut.symm, sup_ne era1.symm, sup_ne ema1.symm, sup_ne e1.symm, sup_same]; rfl
    · rw [sup_ne ema2, sup_ne eum.symm, sup_ne era3.symm, sup_same]; rfl
    · rw [sup_ne era2, sup_ne eur.symm, sup_same]; rfl
end DL
end
section
set_option maxHeartbeats 0
namespace DL
open PySem
variable {A : Ad} (hA : AdOk A)
include hA
theorem dt__law_ink : ∀ ds m R x, ph__law_ink A ds m R x → psi__law_ink A (startD 8 ds) m (endD R x) := by
  rintro ds m R x ⟨w, st, c, m0, s, rfl, hc, ⟨ta, ma, ra, W⟩, hk, hl, hl2, h⟩
  have L : LIM = 16777216 := rfl
  simp [psi__law_ink, gt_place W.hw, wAdd, wordD]
  refine ⟨_, _, _, _, rfl, ⟨ta, ma, ra, W⟩, ?_⟩
  cases h1 : shutL s (s.place + 2) with
  | true =>
    simp [inkL, h1] at h ⊢
    exact ⟨by decide, h m ⟨ta, ma, ra, W⟩⟩
  | false =>
    simp [psi__law_ink_t1, gt_row W.hw, gt_place W.hw]
    refine ⟨by decide, ?_⟩
    simp [psi__law_ink_t2]
    refine ⟨_, _, _, _, rfl, hc, ⟨ta, ma, ra, W⟩, ?_⟩
    have hmark : ∀ K : KD, 2 + 2 ≤ LIM ∧ K (.tup [.int s.row, .int s.place, ch (asL1 s c), colD s.red]) m → wDGet (.ref w) (.str (PySem.Str.ofString "red")) m fun u m1 => match u with
        | .bl b => if b = true then 2 ≤ LIM ∧ wAdd false (.tup [.int s.row, .int s.place]) (.tup [ch (asL1 s c), .str (PySem.Str.ofString "red")]) m1 K else 2 ≤ LIM ∧ wAdd false (.tup [.int s.row, .int s.place]) (.tup [ch (asL1 s c), .str (PySem.Str.ofString "black")]) m1 K
        | _ => False := by
      intro K hK
      rw [gt_red W.hw]
      cases e : s.red <;> simp [wAdd] <;> rw [e] at hK <;> exact ⟨by decide, hK⟩
    refine hmark _ ⟨by decide, ?_⟩
    simp [psi__law_ink_t3, gt_marks W.hw, asI, W.hm]
    refine lc_filter (G := fun m' => m' ma = some (.lst (s.marks.map mkD))) mkD (fun k => decide (k.row = s.row) && decide (k.place = s.place) && decide (k.sign = asL1 s c)) W.hm (by simp) s.marks [] _ (by simp; omega) (fun k hk1 K2 hK2 => ?_) ?_
    · simp [mkD, wCut]
      have e1 : cutL [D.int k.n, .int k.row, .int k.place, ch k.sign, colD k.red] (some 1) (some 4) = [.int k.row, .int k.place, ch k.sign] := rfl
      have e2 : cutL [D.int s.row, .int s.place, ch (asL1 s c), colD s.red] none (some 3) = [.int s.row, .int s.place, ch (asL1 s c)] := rfl
      rw [e1, e2]
      refine ⟨?_, ?_, ?_⟩
      · have := hk k hk1
        simp [rv, dOk, dOks, okS]; omega
      · have := asL1_lt (s := s) hc
        simp [rv, dOk, dOks, okS]; omega
      · simp only [rv]
        rw [eq_likes]
        exact hK2
    · simp only [List.nil_append]
      simp [psi__law_ink_t4, wAdd]
      refine ⟨by decide, by decide, ?_⟩
      -- the tail: go on, and tell
      have tl : ∀ (m1 : Store) (mk : List Mk) (d : D) (v5 v3 v4 v1 : Option D), WkAt m0 w m1 { s with marks := mk } ta ma ra → inkL s st c = (if c ∈ s.dead then { s with marks := mk } else goL { s with marks := mk } (s.place + 2), d) → psi__law_ink_t6 A [some (.ref w), v1, some (ch c), v3, v4, v5, some d, none] m1 (endD R x) := by
        intro m1 mk d v5 v3 v4 v1 W1 e
        rw [e] at h
        simp [psi__law_ink_t6, gt_machine W1.hw]
        refine in_dead hA (b := true) ?_
        by_cases hd : c ∈ s.dead
        · simp [hd] at h ⊢
          simp [psi__law_ink_t7]
          exact h _ ⟨ta, ma, ra, W1⟩
        · simp [hd, gt_place W1.hw, wAdd] at h ⊢
          refine ⟨_, _, _, _, rfl, ⟨ta, ma, ra, W1⟩, by simp; omega, fun m' hW => ?_⟩
          simp [psi__law_ink_t7]
          exact h m' hW
      cases st with
      | true =>
        simp [psi__law_ink_t5, wEq, wordD, gt_marks W.hw, tyM, W.hm, gt_many W.hw, wAdd, wAppend]
        refine ⟨by decide, by decide, by omega, ?_⟩
        have W1 := W.marks (s.marks ++ [⟨s.many, s.row, s.place, asL1 s c, s.red⟩])
        rw [List.map_append] at W1
        exact tl _ _ _ _ _ _ _ W1 (by simp [inkL, h1, inkM, strikeD, wordD])
      | false =>
        simp [psi__law_ink_t5, wEq, wordD]
        have hlk : (s.marks.filter fun k => decide (k.row = s.row) && decide (k.place = s.place) && decide (k.sign = asL1 s c)) = likes s c := rfl
        rw [hlk]
        have hlm : ∀ k ∈ likes s c, k ∈ s.marks := fun k hk => (List.mem_filter.mp hk).1
        refine ⟨?_, ?_, ?_⟩
        · simp [rv, dOk]
          exact ok_mks _ 58 fun k hk' => hk k (hlm k hk')
        · simp [rv, dOk, dOks]
        · cases hL : (likes s c).getLast? with
          | none =>
            have e0 : likes s c = [] := List.getLast?_eq_none_iff.mp hL
            rw [e0]
            simp [rv, eqD, eqDs, wAdd]
            refine ⟨by decide, by decide, ?_⟩
            exact tl _ s.marks _ _ _ _ _ W (by simp [inkL, h1, inkM, hL, nothD, wordD])
          | some k =>
            have hne : likes s c ≠ [] := fun z => by rw [z] at hL; cases hL
            have hkm : k ∈ likes s c := List.mem_of_getLast? hL
            have e0 : eqD (.lst ((likes s c).map mkD)) (.lst []) = false := by
              cases hq : likes s c with
              | nil => exact absurd hq hne
              | cons a b => simp [eqD, eqDs]
            have e1 : atL ((likes s c).map mkD) (-1) = some (mkD k) := by
              unfold atL ixL
              have hlen : 0 < (likes s c).length := List.length_pos_iff.mpr hne
              simp only [List.length_map]
              rw [if_neg (by decide), if_pos (by omega)]
              simp only [Option.bind]
              rw [List.getElem?_map]
              have : (-1 + ((likes s c).length : Int)).toNat = (likes s c).length - 1 := by omega
              rw [this, ← List.getLast?_eq_getElem?, hL]
              rfl
            have e0' : eqD (rv m (.lst ((likes s c).map mkD))) (rv m (.lst [])) = false := e0
            rw [if_neg (by rw [e0']; decide)]
            simp [gt_marks W.hw, tyM, W.hm, wNeg, wIx, asQ, asL, e1]
            obtain ⟨j, j1, j2, j3⟩ := erase_mk s.marks k (hlm k hkm)
            have hks := hk k (hlm k hkm)
            refine ⟨_, j, mkD k, W.hm, ok_mk k 58 hks, ok_mks _ 58 hk, j1, by rw [eq_mk]; simp, fun i z hi hz => j2 i z hi hz, ?_⟩
            rw [j3]
            have W1 := W.marks (s.marks.erase k)
            simp [mkD, wCut, wAdd]
            refine ⟨by decide, ?_⟩
            have e2 : cutL [D.int k.n, .int k.row, .int k.place, ch k.sign, colD k.red] (some 1) none = [.int k.row, .int k.place, ch k.sign, colD k.red] := rfl
            rw [e2]
            refine ⟨by show 5 ≤ LIM; decide, ?_⟩
            exact tl _ _ _ _ _ _ _ W1 (by simp [inkL, h1, inkM, hL, strikeD, wordD])
end DL
end
section
set_option maxHeartbeats 0
namespace DL
open PySem
theorem dput_ok {m : Store} {w ta ma ra : Addr} {s : LW} {K : List (DKey × D) → Prop} (hw : m w = some (.dct (wkD s ta ma ra))) (h : K (wkD s ta ma ra)) : ∃ kvs, m w = some (.dct kvs) ∧ kvs.length < LIM ∧ K kvs := ⟨_, hw, wk_len _ _ _ _, h⟩
theorem ns_in (p : Int) (ts : List Int) : inD (.int p) (ts.map .int) = decide (p ∈ ts) := by
  simp only [inD, List.any_map]
  rw [Bool.eq_iff_iff]
  simp [eqD, Function.comp]
theorem flat_ints (ts : List Int) : (ts.map D.int).all flatD = true := by simp [flatD]
def trn : List (DKey × D) := [(key "free", .str (PySem.Str.ofString "free")), (key "ribbon", .str (PySem.Str.ofString "red")), (key "caps", .str (PySem.Str.ofString "caps"))]
theorem lkFree : lookK (mergeD [] [(key "free", .str (PySem.Str.ofString "free")), (key "ribbon", .str (PySem.Str.ofString "red")), (key "caps", .str (PySem.Str.ofString "caps"))]) (key "free") = some (.str (PySem.Str.ofString "free")) := by simp [mergeD, putKD, lookK, key]
theorem lkRib : lookK (mergeD [] [(key "free", .str (PySem.Str.ofString "free")), (key "ribbon", .str (PySem.Str.ofString "red")), (key "caps", .str (PySem.Str.ofString "caps"))]) (key "ribbon") = some (.str (PySem.Str.ofString "red")) := by simp [mergeD, putKD, lookK, key]
theorem lkCaps : lookK (mergeD [] [(key "free", .str (PySem.Str.ofString "free")), (key "ribbon", .str (PySem.Str.ofString "red")), (key "caps", .str (PySem.Str.ofString "caps"))]) (key "caps") = some (.str (PySem.Str.ofString "caps")) := by simp [mergeD, putKD, lookK, key]
theorem wIn_yes {n : String} {ns : List String} {m : Store} {R : KD} (h : n ∈ ns) (hR : R (.bl true) m) : wIn (.str (PySem.Str.ofString n)) (.tup (ns.map wordD)) m R := by
  refine ⟨rfl, by simp [flatD, wordD], ?_⟩
  have : inD (.str (PySem.Str.ofString n)) (ns.map wordD) = true := by simpa [inD, wordD, eqD] using h
  rw [this]; exact hR
theorem wIn_no {n : String} {ns : List String} {m : Store} {R : KD} (h : n ∉ ns) (hR : R (.bl false) m) : wIn (.str (PySem.Str.ofString n)) (.tup (ns.map wordD)) m R := by
  refine ⟨rfl, by simp [flatD, wordD], ?_⟩
  have : inD (.str (PySem.Str.ofString n)) (ns.map wordD) = false := by
    simp [inD, wordD, eqD]
    intro x hx e; exact h (e ▸ hx)
  rw [this]; exact hR
variable {A : Ad} (hA : AdOk A)
include hA
theorem tabs_lc {m : Store} {ta : Addr} {s : LW} (ht : m ta = some (.lst (s.tabs.map .int))) (hl : s.tabs.length < 1000000) {r : Env} {K : List D → Store → Prop} {i j : Nat} {v : Int} (hi : ∀ d, get (put (wipeD r [i]) i (some d)) i = some d) (hj : ∀ d, get (put (wipeD r [i]) i (some d)) j = some (.int v))
    (h : K ((s.tabs.filter (fun t => decide (t ≠ v))).map .int) m) : wLcL (fun m' => m' ta = some (.lst (s.tabs.map .int))) [i] (gNm i) (wTest (wOp wNe (wVar i) (wVar j))) (wVar i) r (s.tabs.map .int) [] m K := by
  have L : LIM = 16777216 := rfl
  refine lc_filter (G := fun m' => m' ta = some (.lst (s.tabs.map .int))) D.int (fun t => decide (t ≠ v)) ht hi s.tabs [] _ (by simp; omega) (fun k hk1 K2 hK2 => ?_) (by simpa using h)
  simp only [e_test, e_op, e_var, hi, hj, ok_some, wNe, wEq]
  simpa using hK2
theorem dt__law_turn : ∀ ds m R x, ph__law_turn A ds m R x → psi__law_turn A (startD 5 ds) m (endD R x) := by
  rintro ds m R x ⟨w, k, m0, s, rfl, hk, ⟨ta, ma, ra, W⟩, hl, h⟩
  have L : LIM = 16777216 := rfl
  have two : ∀ (s' : LW) (r : Env), turnL s k = (s', doneD) → s'.tabs = s.tabs → s'.marks = s.marks → s'.rings = s.rings → psi__law_turn_t2 A r (sup m w (.dct (wkD s' ta ma ra))) (endD R x) := by
    intro s' r e e1 e2 e3
    simp [psi__law_turn_t2]
    refine ⟨by decide, ?_⟩
    rw [e] at h
    exact h _ ⟨ta, ma, ra, W.put e1 e2 e3⟩
  have tab : ∀ (ts : List Int) (a : Addr) (r : Env), m a = none → turnL s k = ({ s with tabs := ts }, doneD) → psi__law_turn_t2 A r (sup (sup m a (.lst (ts.map .int))) w (.dct (wkD { s with tabs := ts } a ma ra))) (endD R x) := by
    intro ts a r na e
    simp [psi__law_turn_t2]
    refine ⟨by decide, ?_⟩
    rw [e] at h
    exact h _ ⟨a, ma, ra, W.tabs na ts⟩
  have lk : turnL s k = (s, lockD) → 1 ≤ LIM ∧ R lockD m := fun e => ⟨by decide, by rw [e] at h; exact h _ ⟨ta, ma, ra, W⟩⟩
  simp [psi__law_turn, gt_place W.hw, wordD]
  cases k <;> simp [isTurn] at hk
  case left =>
    simp [psi__law_turn_t1, kyW, wEq, gt_high W.hw, wLt]
    by_cases hp : s.place < s.high
    · simp [hp]
      refine dput_ok W.hw ?_
      rw [pt_low]
      exact two _ _ (by simp [turnL, hp]) rfl rfl rfl
    · simp [hp]
      refine ⟨by decide, wIn_yes (ns := ["left", "right", "clear"]) (by decide) ?_⟩
      simp
      exact lk (by simp [turnL, hp])
  case right =>
    simp [psi__law_turn_t1, kyW, wEq, gt_low W.hw, wGt]
    by_cases hp : s.low < s.place
    · simp [hp]
      refine dput_ok W.hw ?_
      rw [pt_high]
      exact two _ _ (by simp [turnL, hp]) rfl rfl rfl
    · simp [hp]
      refine ⟨by decide, wIn_yes (ns := ["left", "right", "clear"]) (by decide) ?_⟩
      simp
      exact lk (by simp [turnL, hp])
  case set =>
    simp [psi__law_turn_t1, kyW, wEq, gt_tabs W.hw, asI, W.ht]
    refine tabs_lc hA (v := s.place) W.ht hl (by simp) (by simp) ?_
    simp
    have hf : (s.tabs.filter (fun t => decide (t ≠ s.place))).length ≤ s.tabs.length := List.length_filter_le _ _
    refine ⟨by decide, _, _, rfl, rfl, by simp at hf ⊢; omega, fun a na => ?_⟩
    have wa : w ≠ a := ne_sto W.hw na
    refine dput_ok (s := s) (ta := ta) (ma := ma) (ra := ra) (by rw [sup_ne wa]; exact W.hw) ?_
    rw [pt_tabs a (s.tabs.filter (fun t => decide (t ≠ s.place)) ++ [s.place])]
    have := tab (s.tabs.filter (fun t => decide (t ≠ s.place)) ++ [s.place]) a [some (.ref w), some (.str (PySem.Str.ofString "set")), some (.int s.place), none, none] na (by simp [turnL])
    simpa using this
  case clear =>
    simp [psi__law_turn_t1, kyW, wEq, gt_tabs W.hw]
    refine ⟨_, show asL m (.ref ta) = some (s.tabs.map .int) by simp [asL, W.ht], .inl ⟨rfl, by simp [flatD]⟩, ?_⟩
    rw [ns_in]
    by_cases hp : s.place ∈ s.tabs
    · simp [hp, asI, W.ht, gt_tabs W.hw]
      refine tabs_lc hA (v := s.place) W.ht hl (by simp) (by simp) ?_
      intro a na
      have wa : w ≠ a := ne_sto W.hw na
      refine dput_ok (s := s) (ta := ta) (ma := ma) (ra := ra) (by rw [sup_ne wa]; exact W.hw) ?_
      rw [pt_tabs a (s.tabs.filter (fun t => decide (t ≠ s.place)))]
      exact tab _ a _ na (by simp [turnL, hp])
    · simp [hp]
      refine ⟨by decide, wIn_yes (ns := ["left", "right", "clear"]) (by decide) ?_⟩
      simp
      exact lk (by simp [turnL, hp])
  case all =>
    simp [psi__law_turn_t1, kyW, wEq]
    refine ⟨by decide, wIn_no (ns := ["left", "right", "clear"]) (by decide) ?_⟩
    simp
    intro a na
    have wa : w ≠ a := ne_sto W.hw na
    refine dput_ok (s := s) (ta := ta) (ma := ma) (ra := ra) (by rw [sup_ne wa]; exact W.hw) ?_
    rw [pt_tabs a []]
    exact tab [] a _ na (by simp [turnL])
  case free =>
    simp [psi__law_turn_t1, kyW, wEq]
    refine ⟨by decide, wIn_no (ns := ["left", "right", "clear"]) (by decide) ?_⟩
    simp [keysD, lkFree]
    refine dput_ok W.hw ?_
    rw [pt_free]
    exact two _ _ (by simp [turnL]) rfl rfl rfl
  case ribbon =>
    simp [psi__law_turn_t1, kyW, wEq]
    refine ⟨by decide, wIn_no (ns := ["left", "right", "clear"]) (by decide) ?_⟩
    simp [keysD, lkRib, gt_red W.hw]
    refine dput_ok W.hw ?_
    rw [pt_red]
    exact two _ _ (by simp [turnL]) rfl rfl rfl
  case caps =>
    simp [psi__law_turn_t1, kyW, wEq]
    refine ⟨by decide, wIn_no (ns := ["left", "right", "clear"]) (by decide) ?_⟩
    simp [keysD, lkCaps, gt_caps W.hw]
    refine dput_ok W.hw ?_
    rw [pt_caps]
    exact two _ _ (by simp [turnL]) rfl rfl rfl
end DL
end
section
set_option maxHeartbeats 0
namespace DL
open PySem
theorem lkRow (s : D) : lookK (mergeD [] [(key "return", s), (key "up", .int (-1)), (key "down", .int 1)]) (key "return") = some s := by simp [mergeD, putKD, lookK, key]
theorem lkUp (s : D) : lookK (mergeD [] [(key "return", s), (key "up", .int (-1)), (key "down", .int 1)]) (key "up") = some (.int (-1)) := by simp [mergeD, putKD, lookK, key]
theorem lkDown (s : D) : lookK (mergeD [] [(key "return", s), (key "up", .int (-1)), (key "down", .int 1)]) (key "down") = some (.int 1) := by simp [mergeD, putKD, lookK, key]
theorem kyW_in (k : Ky) (h : isTurn k = true) : kyW k ∈ ["left", "right", "set", "clear", "all", "free", "ribbon", "caps"] := by cases k <;> simp [isTurn, kyW] at h ⊢
theorem kyW_no (k : Ky) (h : isStep k = true) : kyW k ∉ ["left", "right", "set", "clear", "all", "free", "ribbon", "caps"] := by cases k <;> simp [isStep, kyW] at h ⊢
theorem goL_sm {s : LW} {p : Int} {n : Nat} (h : s.sm n) : (goL s p).sm (n + 1) := by
  obtain ⟨h1, h2, h3, h4⟩ := h
  refine ⟨by simp [goL]; omega, by simp [goL]; omega, ?_, by simpa [goL] using h4⟩
  simp only [goL]
  split <;> (try simp) <;> omega
theorem LW.sm.up {s : LW} {n : Nat} (h : s.sm n) : s.sm (n + 1) := ⟨by have := h.t; omega, by have := h.m; omega, by have := h.r; omega, h.g⟩
theorem act_sm {s : LW} {k : Ky} {n : Nat} (hk : kyOk k) (h : s.sm n) : (actL s k).1.sm (n + 1) := by
  have ink : ∀ st c, c < 128 → (inkL s st c).1.sm (n + 1) := by
    intro st c hc
    unfold inkL
    split
    · exact h.up
    · have hm : (inkM s st c).1.length ≤ n + 1 ∧ ∀ z ∈ (inkM s st c).1, z.sign < 128 := by
        unfold inkM
        split
        · refine ⟨by simp; exact h.m, fun z hz => ?_⟩
          rcases List.mem_append.mp hz with e | e
          · exact h.g z e
          · simp at e; subst e; exact asL1_lt hc
        · split
          · exact ⟨by have := h.m; show s.marks.length ≤ n + 1; omega, h.g⟩
          · rename_i k _
            refine ⟨?_, fun z hz => h.g z (List.mem_of_mem_erase hz)⟩
            have h5 : (s.marks.erase k).length ≤ s.marks.length := List.length_erase_le
            have := h.m
            show (s.marks.erase k).length ≤ n + 1
            omega
      show LW.sm (if c ∈ s.dead then _ else _) (n + 1)
      split
      · exact ⟨h.up.t, hm.1, h.up.r, hm.2⟩
      · refine ⟨by simp [goL]; exact h.up.t, by simp [goL]; exact hm.1, ?_, by simp [goL]; exact hm.2⟩
        have := h.r
        simp only [goL]
        split <;> (try simp) <;> omega
  have fl : ∀ p : Int → Bool, (s.tabs.filter p).length ≤ n := fun p => Nat.le_trans (List.length_filter_le _ _) h.t
  have on : ∀ p, (onL s p).1.sm (n + 1) := by intro p; unfold onL; split; exact h.up; exact goL_sm h
  have row : ∀ r b, (rowL s r b).1.sm (n + 1) := by
    intro r b; unfold rowL; split
    · exact h.up
    · split <;> exact ⟨h.up.t, h.up.m, h.up.r, h.g⟩
  cases k with
  | sign c => exact ink true c hk
  | lift c => exact ink false c hk
  | left => simp only [actL, isTurn, if_true, turnL]; split <;> exact ⟨h.up.t, h.up.m, h.up.r, h.g⟩
  | right => simp only [actL, isTurn, if_true, turnL]; split <;> exact ⟨h.up.t, h.up.m, h.up.r, h.g⟩
  | set => simp only [actL, isTurn, if_true, turnL]; exact ⟨by simpa using fl _, h.up.m, h.up.r, h.g⟩
  | clear => simp only [actL, isTurn, if_true, turnL]; split; exact ⟨Nat.le_succ_of_le (fl _), h.up.m, h.up.r, h.g⟩; exact h.up
  | all => simp only [actL, isTurn, if_true, turnL]; exact ⟨by simp, h.up.m, h.up.r, h.g⟩
  | free => exact ⟨h.up.t, h.up.m, h.up.r, h.g⟩
  | ribbon => exact ⟨h.up.t, h.up.m, h.up.r, h.g⟩
  | caps => exact ⟨h.up.t, h.up.m, h.up.r, h.g⟩
  | back => show LW.sm (stepL1 s .back).1 _; simp only [stepL1]; split; exact h.up; exact ⟨h.up.t, h.up.m, h.up.r, h.g⟩
  | ret => exact row _ _
  | up => exact row _ _
  | down => exact row _ _
  | blank => exact on _
  | half => exact on _
  | tab => exact on _
variable {A : Ad} (hA : AdOk A)
include hA
theorem dt__law_step : ∀ ds m R x, ph__law_step A ds m R x → psi__law_step A (startD 6 ds) m (endD R x) := by
  rintro ds m R x ⟨w, k, m0, s, rfl, hk, ⟨ta, ma, ra, W⟩, hl, hl2, h⟩
  have L : LIM = 16777216 := rfl
  have lk : stepL1 s k = (s, lockD) → 1 ≤ LIM ∧ R lockD m := fun e => ⟨by decide, by rw [e] at h; exact h _ ⟨ta, ma, ra, W⟩⟩
  simp [psi__law_step, gt_place W.hw, wordD]
  -- the last statement: to a goal
  have fin : ∀ (p : Int) (v1 v3 v5 : Option D), stepL1 s k = onL s p → psi__law_step_t5 A [some (.ref w), v1, some (.int s.place), v3, some (.int p), v5] m (endD R x) := by
    intro p v1 v3 v5 e
    simp [psi__law_step_t5]
    refine ⟨_, _, _, _, rfl, ⟨ta, ma, ra, W⟩, ?_⟩
    cases hs : shutL s p
    · simp
      refine ⟨_, _, _, _, rfl, ⟨ta, ma, ra, W⟩, by omega, fun m' hW => ?_⟩
      have e' : stepL1 s k = (goL s p, movedD s.row p) := by rw [e]; simp [onL, hs]
      rw [e'] at h
      exact h m' hW
    · simp
      exact lk (by rw [e]; simp [onL, hs])
  cases k <;> simp [isStep] at hk
  case back =>
    simp [psi__law_step_t1, kyW, wEq, wLt, gt_free W.hw, gt_low W.hw, wGe, wSub, wGt]
    have mv : ¬ (s.place < 2 ∨ (s.free = false ∧ s.low ≤ s.place ∧ s.place - 2 < s.low)) → ∃ kvs, m w = some (.dct kvs) ∧ kvs.length < LIM ∧ wDGet (.ref w) (.str (PySem.Str.ofString "row")) (sup m w (.dct (putKD (key "place") (.int (s.place - 2)) kvs))) fun u m1 => 3 ≤ LIM ∧ R (.tup [.str (PySem.Str.ofString "moved"), u, .int (s.place - 2)]) m1 := by
      intro hn
      refine dput_ok W.hw ?_
      rw [pt_place]
      have W2 := W.put (s' := { s with place := s.place - 2 }) rfl rfl rfl
      rw [gt_row W2.hw]
      refine ⟨by decide, ?_⟩
      have e : stepL1 s .back = ({ s with place := s.place - 2 }, movedD s.row (s.place - 2)) := by simp only [stepL1]; rw [if_neg hn]
      rw [e] at h
      exact h _ ⟨ta, ma, ra, W2⟩
    have lk' : (s.place < 2 ∨ (s.free = false ∧ s.low ≤ s.place ∧ s.place - 2 < s.low)) → 1 ≤ LIM ∧ R (.tup [.str (PySem.Str.ofString "locked")]) m := fun hy => lk (by simp only [stepL1]; rw [if_pos hy])
    by_cases h1 : s.place < 2
    · simp [h1]
      exact lk' (.inl h1)
    · simp [h1]
      cases h2 : s.free
      · simp
        by_cases h3 : s.low ≤ s.place
        · simp [h3]
          by_cases h4 : s.place - 2 < s.low
          · simp [h4]
            exact lk' (.inr ⟨h2, h3, h4⟩)
          · simp [h4]
            exact mv (by simp [h1, h2, h3, h4])
        · simp [h3]
          exact mv (by simp [h1, h3])
      · simp
        exact mv (by simp [h1, h2])
  case ret =>
    simp [psi__law_step_t1, kyW, wEq]
    simp [psi__law_step_t2]
    refine ⟨by decide, wIn_yes (ns := ["return", "up", "down"]) (by decide) ?_⟩
    simp [gt_row W.hw, gt_machine W.hw, keysD, wNeg, lkRow, wAdd, wLt, wGt]
    have e0 : s.row + s.dn = s.row + s.dn := rfl
    by_cases h1 : s.row + s.dn < 0
    · simp [e0, h1]
      exact lk (by simp [stepL1, rowL, h1])
    · by_cases h2 : 60 < s.row + s.dn
      · simp [e0, h1, h2]
        exact lk (by simp [stepL1, rowL, h1, h2])
      simp only [e0, h1, h2, decide_false, Bool.false_eq_true, if_false]
      refine dput_ok W.hw ?_
      rw [pt_row]
      have W2 := W.put (s' := { s with row := s.row + s.dn }) rfl rfl rfl
      simp [wEq, gt_low W2.hw]
      refine dput_ok W2.hw ?_
      rw [pt_place]
      have W3 := W2.put (s' := { s with row := s.row + s.dn, place := s.low }) rfl rfl rfl
      refine dput_ok W3.hw ?_
      rw [pt_free]
      have W4 := W3.put (s' := { s with row := s.row + s.dn, place := s.low, free := false }) rfl rfl rfl
      rw [gt_place W4.hw]
      refine ⟨by decide, ?_⟩
      have e : stepL1 s .ret = ({ s with row := s.row + s.dn, place := s.low, free := false }, movedD (s.row + s.dn) s.low) := by simp [stepL1, rowL, h1, h2]
      rw [e] at h
      exact h _ ⟨ta, ma, ra, W4⟩
  case up =>
    simp [psi__law_step_t1, kyW, wEq]
    simp [psi__law_step_t2]
    refine ⟨by decide, wIn_yes (ns := ["return", "up", "down"]) (by decide) ?_⟩
    simp [gt_row W.hw, gt_machine W.hw, keysD, wNeg, lkUp, wAdd, wLt, wGt]
    have e0 : s.row + -1 = s.row - 1 := rfl
    by_cases h1 : s.row - 1 < 0
    · simp [e0, h1]
      exact lk (by simp [stepL1, rowL, h1])
    · by_cases h2 : 60 < s.row - 1
      · simp [e0, h1, h2]
        exact lk (by simp [stepL1, rowL, h1, h2])
      simp only [e0, h1, h2, decide_false, Bool.false_eq_true, if_false]
      refine dput_ok W.hw ?_
      rw [pt_row]
      have W2 := W.put (s' := { s with row := s.row - 1 }) rfl rfl rfl
      simp [wEq]
      rw [gt_place W2.hw]
      refine ⟨by decide, ?_⟩
      have e : stepL1 s .up = ({ s with row := s.row - 1 }, movedD (s.row - 1) s.place) := by simp [stepL1, rowL, h1, h2]
      rw [e] at h
      exact h _ ⟨ta, ma, ra, W2⟩
  case down =>
    simp [psi__law_step_t1, kyW, wEq]
    simp [psi__law_step_t2]
    refine ⟨by decide, wIn_yes (ns := ["return", "up", "down"]) (by decide) ?_⟩
    simp [gt_row W.hw, gt_machine W.hw, keysD, wNeg, lkDown, wAdd, wLt, wGt]
    have e0 : s.row + 1 = s.row + 1 := rfl
    by_cases h1 : s.row + 1 < 0
    · simp [e0, h1]
      exact lk (by simp [stepL1, rowL, h1])
    · by_cases h2 : 60 < s.row + 1
      · simp [e0, h1, h2]
        exact lk (by simp [stepL1, rowL, h1, h2])
      simp only [e0, h1, h2, decide_false, Bool.false_eq_true, if_false]
      refine dput_ok W.hw ?_
      rw [pt_row]
      have W2 := W.put (s' := { s with row := s.row + 1 }) rfl rfl rfl
      simp [wEq]
      rw [gt_place W2.hw]
      refine ⟨by decide, ?_⟩
      have e : stepL1 s .down = ({ s with row := s.row + 1 }, movedD (s.row + 1) s.place) := by simp [stepL1, rowL, h1, h2]
      rw [e] at h
      exact h _ ⟨ta, ma, ra, W2⟩
  case blank =>
    simp [psi__law_step_t1, kyW, wEq]
    simp [psi__law_step_t2]
    refine ⟨by decide, wIn_no (ns := ["return", "up", "down"]) (by decide) ?_⟩
    simp [psi__law_step_t3, wEq, wAdd]
    simp [psi__law_step_t4, wEq]
    exact fin _ _ _ _ rfl
  case half =>
    simp [psi__law_step_t1, kyW, wEq]
    simp [psi__law_step_t2]
    refine ⟨by decide, wIn_no (ns := ["return", "up", "down"]) (by decide) ?_⟩
    simp [psi__law_step_t3, wEq, wAdd]
    simp [psi__law_step_t4, wEq]
    exact fin _ _ _ _ rfl
  case tab =>
    simp [psi__law_step_t1, kyW, wEq]
    simp [psi__law_step_t2]
    refine ⟨by decide, wIn_no (ns := ["return", "up", "down"]) (by decide) ?_⟩
    simp [psi__law_step_t3, wEq, wAdd]
    simp [psi__law_step_t4, wEq, gt_tabs W.hw, asI, W.ht]
    have hT : ∀ m' : Store, m' = m → m' ta = some (.lst (s.tabs.map .int)) := by rintro m' rfl; exact W.ht
    refine lc_filter (G := fun m' => m' ta = some (.lst (s.tabs.map .int))) D.int (fun t => decide (s.place < t)) W.ht (by simp) s.tabs [] _ (by simp; omega) (fun k hk1 K2 hK2 => ?_) ?_
    · simp [wGt]
      exact hK2
    · have hf : (s.tabs.filter fun t => decide (s.place < t)).length ≤ s.tabs.length := List.length_filter_le _ _
      simp
      refine ⟨by decide, _, _, rfl, rfl, by simp; omega, ?_⟩
      refine ⟨(s.tabs.filter fun t => decide (s.place < t)) ++ [999], by simp [asL], by simp, fun z hz hmin => ?_⟩
      refine fin _ _ _ _ ?_
      have e : tabL s = z := by
        unfold tabL
        have : ((s.tabs.filter fun t => decide (s.place < t)) ++ [999]).min? = some z := by
          rw [List.min?_eq_some_iff]
          exact ⟨hz, hmin⟩
        rw [this]; rfl
      simp only [stepL1]
      rw [e]
theorem dt__law_press : ∀ ds m R x, ph__law_press A ds m R x → psi__law_press A (startD 3 ds) m (endD R x) := by
  rintro ds m R x ⟨w, k, m0, s, n, rfl, hk, hW, hs, hn, h⟩
  have L : LIM = 16777216 := rfl
  have tl : ∀ m' (v1 : Option D) , Wk m0 w m' (actL s k).1 → psi__law_press_t1 A [some (.ref w), v1, some (actL s k).2] m' (endD R x) := by
    rintro m' v1 ⟨ta, ma, ra, W⟩
    simp [psi__law_press_t1, gt_many W.hw, wAdd]
    refine dput_ok W.hw ?_
    rw [pt_many]
    have W2 := W.put (s' := { (actL s k).1 with many := (actL s k).1.many + 1 }) rfl rfl rfl
    simp [psi__law_press_t2]
    have sm := act_sm hk hs
    exact h _ ⟨ta, ma, ra, W2⟩ ⟨sm.t, sm.m, sm.r, sm.g⟩
  have turn : isTurn k = true → (actL s k) = turnL s k → (∀ K : KD, wIx (kyD k) (.int 0) m K = K (.str (PySem.Str.ofString (kyW k))) m) → kyW k ∉ ["sign", "lift"] → psi__law_press A (startD 3 [.ref w, kyD k]) m (endD R x) := by
    intro ht ha hx hno
    simp [psi__law_press, hx]
    refine ⟨by decide, wIn_no (ns := ["sign", "lift"]) hno ?_⟩
    simp [hx]
    refine ⟨by decide, wIn_yes (ns := ["left", "right", "set", "clear", "all", "free", "ribbon", "caps"]) (kyW_in k ht) ?_⟩
    simp [hx]
    refine ⟨w, k, m0, s, rfl, ht, hW, by have := hs.t; omega, fun m' hW' => ?_⟩
    rw [← ha] at hW' ⊢
    exact tl _ _ hW'
  have step : isStep k = true → (actL s k) = stepL1 s k → (∀ K : KD, wIx (kyD k) (.int 0) m K = K (.str (PySem.Str.ofString (kyW k))) m) → kyW k ∉ ["sign", "lift"] → psi__law_press A (startD 3 [.ref w, kyD k]) m (endD R x) := by
    intro ht ha hx hno
    simp [psi__law_press, hx]
    refine ⟨by decide, wIn_no (ns := ["sign", "lift"]) hno ?_⟩
    simp [hx]
    refine ⟨by decide, wIn_no (ns := ["left", "right", "set", "clear", "all", "free", "ribbon", "caps"]) (kyW_no k ht) ?_⟩
    simp [hx]
    refine ⟨w, k, m0, s, rfl, ht, hW, by have := hs.t; omega, by have := hs.r; omega, fun m' hW' => ?_⟩
    rw [← ha] at hW' ⊢
    exact tl _ _ hW'
  have ink : ∀ (st : Bool) (c : Nat), c < 128 → k = (if st = true then .sign c else .lift c) → psi__law_press A (startD 3 [.ref w, kyD k]) m (endD R x) := by
    intro st c hc e
    have ha : actL s k = inkL s st c := by subst e; cases st <;> rfl
    have e1 : ∀ K : KD, wIx (kyD k) (.int 0) m K = K (.str (PySem.Str.ofString (if st = true then "sign" else "lift"))) m := by subst e; cases st <;> intro K <;> rfl
    have e2 : ∀ K : KD, wIx (kyD k) (.int 1) m K = K (ch c) m := by subst e; cases st <;> intro K <;> rfl
    simp [psi__law_press, e1]
    refine ⟨by decide, wIn_yes (ns := ["sign", "lift"]) (by cases st <;> decide) ?_⟩
    simp [e1, e2]
    refine ⟨w, st, c, m0, s, rfl, hc, hW, hs.g, by have := hs.m; omega, by have := hs.r; omega, fun m' hW' => ?_⟩
    rw [← ha] at hW' ⊢
    exact tl _ _ hW'
  cases k with
  | sign c => exact ink true c hk rfl
  | lift c => exact ink false c hk rfl
  | left => exact turn rfl rfl (fun _ => rfl) (by decide)
  | right => exact turn rfl rfl (fun _ => rfl) (by decide)
  | set => exact turn rfl rfl (fun _ => rfl) (by decide)
  | clear => exact turn rfl rfl (fun _ => rfl) (by decide)
  | all => exact turn rfl rfl (fun _ => rfl) (by decide)
  | free => exact turn rfl rfl (fun _ => rfl) (by decide)
  | ribbon => exact turn rfl rfl (fun _ => rfl) (by decide)
  | caps => exact turn rfl rfl (fun _ => rfl) (by decide)
  | back => exact step rfl rfl (fun _ => rfl) (by decide)
  | ret => exact step rfl rfl (fun _ => rfl) (by decide)
  | up => exact step rfl rfl (fun _ => rfl) (by decide)
  | down => exact step rfl rfl (fun _ => rfl) (by decide)
  | blank => exact step rfl rfl (fun _ => rfl) (by decide)
  | half => exact step rfl rfl (fun _ => rfl) (by decide)
  | tab => exact step rfl rfl (fun _ => rfl) (by decide)
theorem dt__law_worked : ∀ ds m R x, ph__law_worked A ds m R x → psi__law_worked A (startD 6 ds) m (endD R x) := by
  rintro ds m R x ⟨c, dead, dn, tabs, ks, b, rfl, hM, hk, hl, h⟩
  have L : LIM = 16777216 := rfl
  simp [psi__law_worked]
  refine ⟨_, _, _, _, rfl, hM, fun w m1 hW => ?_⟩
  simp [psi__law_worked_t1, seqD_I]
  have e : ∀ (a b : List Ky) (s : LW), runL s (a ++ b) = ((runL (runL s a).1 b).1, (runL s a).2 ++ (runL (runL s a).1 b).2) := by
    intro a
    induction a with
    | nil => intro b s; simp [runL]
    | cons k a ih => intro b s; simp [runL, ih]
  refine lc_inv (fun ds acc m' => ∃ done rest n, ks = done ++ rest ∧ ds = rest.map kyD ∧ acc = (runL (newL c dead dn tabs) done).2 ∧ Wk m w m' (runL (newL c dead dn tabs) done).1 ∧ (runL (newL c dead dn tabs) done).1.sm n ∧ n + rest.length ≤ tabs.length + ks.length ∧ acc.length = done.length) _ _ _ _ ⟨[], ks, tabs.length, rfl, rfl, rfl, hW, ⟨by simp [newL, runL], by simp [newL, runL], by simp [newL, runL], by simp [newL, runL]⟩, by omega, rfl⟩ ?_ ?_
  · rintro d ds acc m' ⟨done, rest, n, e1, e2, e3, hW', hs, hn, ha⟩ P hP
    cases rest with
    | nil => cases e2
    | cons k rest =>
      simp at e2
      obtain ⟨rfl, rfl⟩ := e2
      have hkk : kyOk k := hk k (by rw [e1]; simp)
      have hlen : ks.length = done.length + (rest.length + 1) := by rw [e1]; simp
      refine ⟨trivial, ?_⟩
      simp
      refine ⟨w, k, m, _, n, rfl, hkk, hW', hs, by simp at hn; omega, fun m2 hW2 hs2 => ⟨by omega, hP _ _ ⟨done ++ [k], rest, n + 1, by rw [e1]; simp, rfl, ?_, ?_, ?_, by simp at hn; omega, by simp [ha]⟩⟩⟩
      · rw [e]; simp [runL, e3]
      · rw [e]; simpa [runL] using hW2
      · rw [e]; simpa [runL] using hs2
  · rintro acc m' ⟨done, rest, n, e1, e2, e3, hW', hs, hn, ha⟩
    have e4 : rest = [] := by cases rest with | nil => rfl | cons a b => cases e2
    subst e4
    rw [List.append_nil] at e1
    subst e1
    refine ⟨trivial, ?_⟩
    simp [psi__law_worked_t2]
    refine ⟨by decide, ?_⟩
    rw [e3]
    exact h w m' hW'
end DL
end
section
set_option maxHeartbeats 0
namespace DL
open PySem
def fldP (C : Addr) (m : Store) (p : Addr) (f : Str) (R : KD) : Prop := ∃ fs d, m p = some (.ins C fs) ∧ lookD fs f = some d ∧ R d m
@[simp] theorem e_fld (C : Addr) (f : Str) (a : WE) (r : Env) (m : Store) (R : KD) (x : XD) : wFld C f a r m R x = a r m (fun u m1 => match u with | .ref p => fldP C m1 p f R | _ => False) x := (rfl)
def fldS (C : Addr) (m : Store) (p : Addr) (f : Str) (y : D) (K : Store → Prop) : Prop := ∃ fs, m p = some (.ins C fs) ∧ fs.length < 1000 ∧ K (sup m p (.ins C (putD f y fs)))
@[simp] theorem s_fldS (C : Addr) (f : Str) (a v : WE) (r : Env) (m : Store) (k : SK) : wFldS C f a v r m k = v r m (fun y m1 => a r m1 (fun u m2 => match u with | .ref p => fldS C m2 p f y (fun m3 => k.nx r m3) | _ => False) k.ex) k.ex := (rfl)
def ownP (C : Addr) (m : Store) (p : Addr) (nm : Str) (K : Prop) : Prop := ∃ fs, m p = some (.ins C fs) ∧ lookD fs nm = none ∧ K
@[simp] theorem e_own1 (C : Addr) (nm : Str) (n : Nat) (f : FW) (o : WE) (a : WA) (r : Env) (m : Store) (R : KD) (x : XD) : wOwn1 C nm n f o a r m R x = o r m (fun u m1 => match u with | .ref p => ownP C m1 p nm (a r m1 (fun us m2 => us.length + 1 = n ∧ f (.ref p :: us) m2 R x) x) | _ => False) x := (rfl)
@[simp] theorem e_make (C : Addr) (n : Nat) (f : FW) (a : WA) (r : Env) (m : Store) (R : KD) (x : XD) : wMake C n f a r m R x = a r m (fun us m1 => us.length + 1 = n ∧ ∀ p, m1 p = none → f (.ref p :: us) (sup m1 p (.ins C [])) (fun d m2 => d = .non ∧ R (.ref p) m2) x) x := (rfl)
@[simp] theorem e_srtSetI (b : Bool) (a : WE) (r : Env) (m : Store) (R : KD) (x : XD) : wSrtSetI b a r m R x = a r m (fun u m1 => ∃ ns : List Int, asL m1 u = some (ns.map .int) ∧ ns.length < 4000 ∧ ∀ ns' : List Int, ns'.Pairwise (· < ·) → (∀ k, k ∈ ns' ↔ k ∈ ns) → wNw b (ns'.map .int) m1 R) x := (rfl)
def tabsS (ts : List Int) : List Int := ts.mergeSort (fun a b => decide (a ≤ b))
def maD (s : LW) (ta ma ra : Addr) : List (Str × D) :=
  [("dead", .tup (s.dead.map ch)), ("down", .int s.dn), ("end", .int (2 * s.c)), ("row", .int s.row), ("place", .int s.place), ("low", .int s.low), ("high", .int s.high), ("tabs", .ref ta), ("colour", colD s.red), ("caps", .bl s.caps), ("is_free", .bl s.free), ("marks", .ref ma), ("rings", .ref ra), ("many", .int s.many)]
structure MaAt (A : Ad) (m0 : Store) (p : Addr) (m : Store) (s : LW) (ta ma ra : Addr) : Prop where
  sub : Sub m0 m
  np : m0 p = none
  nt : m0 ta = none
  nm : m0 ma = none
  nr : m0 ra = none
  hp : m p = some (.ins A.cMachine (maD s ta ma ra))
  ht : m ta = some (.lst ((tabsS s.tabs).map .int))
  hm : m ma = some (.lst (s.marks.map mkD))
  hr : m ra = some (.lst (s.rings.map .int))
  tm : ta ≠ ma
  tr : ta ≠ ra
  mr : ma ≠ ra
def Ma (A : Ad) (m0 : Store) (p : Addr) (m : Store) (s : LW) : Prop := ∃ ta ma ra, MaAt A m0 p m s ta ma ra
structure LW.ok (s : LW) : Prop where
  c0 : 8 ≤ s.c
  c1 : s.c ≤ 40
  d2 : 2 ≤ s.dn
  d4 : s.dn ≤ 4
  p0 : 0 ≤ s.place
  p1 : s.place ≤ 2 * s.c
  l0 : 0 ≤ s.low
  l1 : s.low ≤ 2 * s.c
  h0 : 0 ≤ s.high
  h1 : s.high ≤ 2 * s.c
  r0 : 0 ≤ s.row
  r1 : s.row ≤ 60
  td : s.tabs.Nodup
  tb : ∀ t ∈ s.tabs, 0 ≤ t ∧ t ≤ 2 * s.c
  mn : s.marks.Pairwise (fun a b => a.n < b.n)
  mb : ∀ k ∈ s.marks, k.n < s.many
  m0 : 0 ≤ s.many
def ph_struck_as (A : Ad) : FW := fun ds m R _ => ∃ c b, ds = [ch c, .bl b] ∧ R (ch (if b = true then upC c else c)) m
def ph_Machine___init__ (A : Ad) : FW := fun ds m R _ => ∃ p c dead dn m0, ds = [.ref p, machD c dead dn, .tup []] ∧ MOk c dead dn ∧ m0 p = none ∧ m = sup m0 p (.ins A.cMachine []) ∧ ∀ m', Ma A m0 p m' (newL c dead dn []) → R .non m'
def ph_Machine_is_locked (A : Ad) : FW := fun ds m R _ => ∃ p q m0 s, ds = [.ref p, .int q] ∧ Ma A m0 p m s ∧ R (.bl (shutL s q)) m
def ph_Machine_go_on (A : Ad) : FW := fun ds m R _ => ∃ p q m0 s, ds = [.ref p, .int q] ∧ Ma A m0 p m s ∧ s.rings.length < 1000000 ∧ ∀ m', Ma A m0 p m' (goL s q) → R .non m'
def ph_Machine_strike (A : Ad) : FW := fun ds m R _ => ∃ p c m0 s, ds = [.ref p, ch c] ∧ Ma A m0 p m s ∧ s.marks.length < 1000000 ∧ s.rings.length < 1000000 ∧ ∀ m', Ma A m0 p m' (inkL s true c).1 → R (inkL s true c).2 m'
def ph_Machine_lift (A : Ad) : FW := fun ds m R _ => ∃ p c m0 s, ds = [.ref p, ch c] ∧ c < 128 ∧ Ma A m0 p m s ∧ s.ok ∧ (∀ k ∈ s.marks, k.sign < 128) ∧ s.marks.length < 1000000 ∧ s.rings.length < 1000000 ∧ ∀ m', Ma A m0 p m' (inkL s false c).1 → R (inkL s false c).2 m'
def isMove : Ky → Bool
  | .back => true | .blank => true | .half => true | .tab => true
  | _ => false
def isRoll : Ky → Bool
  | .ret => true | .up => true | .down => true
  | _ => false
def ph_Machine_move (A : Ad) : FW := fun ds m R _ => ∃ p k m0 s, ds = [.ref p, wordD (kyW k)] ∧ isMove k = true ∧ Ma A m0 p m s ∧ s.ok ∧ s.rings.length < 1000000 ∧ ∀ m', Ma A m0 p m' (stepL1 s k).1 → R (stepL1 s k).2 m'
def ph_Machine_roll (A : Ad) : FW := fun ds m R _ => ∃ p k m0 s, ds = [.ref p, wordD (kyW k)] ∧ isRoll k = true ∧ Ma A m0 p m s ∧ ∀ m', Ma A m0 p m' (stepL1 s k).1 → R (stepL1 s k).2 m'
def ph_Machine_set_up (A : Ad) : FW := fun ds m R _ => ∃ p k m0 s, ds = [.ref p, wordD (kyW k)] ∧ isTurn k = true ∧ Ma A m0 p m s ∧ s.ok ∧ ∀ m', Ma A m0 p m' (turnL s k).1 → R (turnL s k).2 m'
def ph_Machine_press (A : Ad) : FW := fun ds m R _ => ∃ p k m0 s n, ds = [.ref p, kyD k] ∧ kyOk k ∧ Ma A m0 p m s ∧ s.ok ∧ s.sm n ∧ n < 1000000 ∧ ∀ m', Ma A m0 p m' (pressL s k).1 → (pressL s k).1.ok → (pressL s k).1.sm (n + 1) → R (pressL s k).2 m'
def standD (s : LW) : D := .tup [.int s.row, .int s.place, .int s.low, .int s.high, .tup ((tabsS s.tabs).map .int), colD s.red, .bl s.caps, .bl s.free]
def ph_Machine_stand (A : Ad) : FW := fun ds m R _ => ∃ p m0 s, ds = [.ref p] ∧ Ma A m0 p m s ∧ R (standD s) m
def keyWords : List String := ["blank", "half", "back", "tab", "return", "up", "down", "left", "right", "set", "clear", "all", "free", "ribbon", "caps"]
def isKeyB : D → Bool
  | .tup (.str w :: rest) =>
    if w = PySem.Str.ofString "sign" ∨ w = PySem.Str.ofString "lift" then (match rest with | [x] => oneOfB x G_SIGNS | _ => false)
    else match rest with | [] => decide (w ∈ keyWords.map PySem.Str.ofString) | _ => false
  | _ => false
def keysB : D → Bool
  | .tup xs => decide (xs.length ≤ 4000) && xs.all isKeyB
  | _ => false
def ph_is_key (A : Ad) : FW := fun ds m R _ => ∃ d, ds = [d] ∧ arg m d ∧ R (.bl (isKeyB d)) m
def kyG : Ky → Prop
  | .sign c => c ∈ G_SIGNS.cps.toList
  | .lift c => c ∈ G_SIGNS.cps.toList
  | _ => True
def newS (c : Int) (dead : List Nat) (dn : Int) : LW := newL c dead dn []
def ph_worked (A : Ad) : FW := fun ds m R _ => ∃ (c : Int) (dead : List Nat) (dn : Int) (ks : List Ky), ds = [machD c dead dn, .tup [], .tup (ks.map kyD)] ∧ MOk c dead dn ∧ (∀ k ∈ ks, kyOk k) ∧ ks.length ≤ 4000 ∧
  ∀ p m', Ma A m p m' (runL (newS c dead dn) ks).1 → R (.tup [.ref p, .lst (runL (newS c dead dn) ks).2]) m'
def inKeys (A : Ad) (m : Store) (d : D) (x : XD) (K : List Ky → Prop) : Prop := arg m d ∧ (keysB d = false → x A.xNoKeys m) ∧ ∀ ks, d = .tup (ks.map kyD) → (∀ k ∈ ks, kyG k) → ks.length ≤ 4000 → K ks
theorem inKeys.imp {A : Ad} {m : Store} {d : D} {x : XD} {K K' : List Ky → Prop} (h : inKeys A m d x K) (f : ∀ ks, d = .tup (ks.map kyD) → (∀ k ∈ ks, kyG k) → ks.length ≤ 4000 → K ks → K' ks) : inKeys A m d x K' := ⟨h.1, h.2.1, fun ks e hk hl => f ks e hk hl (h.2.2 ks e hk hl)⟩
def ph_need_keys (A : Ad) : FW := fun ds m R x => ∃ d, ds = [d] ∧ inKeys A m d x fun _ => R .non m
def inBoth (A : Ad) (m : Store) (dm dk : D) (x : XD) (K : Int → List Nat → Int → List Ky → Prop) : Prop := inMach A m dm x fun c dead dn => inKeys A m dk x (K c dead dn)
def ph_need_both (A : Ad) : FW := fun ds m R x => ∃ dm dk, ds = [dm, dk] ∧ inBoth A m dm dk x fun _ _ _ _ => R .non m
def ph_pressed (A : Ad) : FW := fun ds m R x => ∃ dm dk, ds = [dm, dk] ∧ inBoth A m dm dk x fun c dead dn ks => R (.lst (runL (newS c dead dn) ks).2) m
def ph_state (A : Ad) : FW := fun ds m R x => ∃ dm dk, ds = [dm, dk] ∧ inBoth A m dm dk x fun c dead dn ks => R (standD (runL (newS c dead dn) ks).1) m
def ph_rung (A : Ad) : FW := fun ds m R x => ∃ dm dk, ds = [dm, dk] ∧ inBoth A m dm dk x fun c dead dn ks => R (.lst ((runL (newS c dead dn) ks).1.rings.map .int)) m
end DL
end
section
set_option maxHeartbeats 0
namespace DL
open PySem
section
variable {A : Ad} {m : Store} {p ta ma ra : Addr} {s : LW} (hp : m p = some (.ins A.cMachine (maD s ta ma ra))) (R : KD)
include hp
theorem gf_of {n : Str} {v : D} (hk : lookD (maD s ta ma ra) n = some v) : fldP A.cMachine m p n R = R v m := by
  apply propext
  constructor
  · rintro ⟨fs, d, e, h1, h2⟩
    rw [hp] at e
    cases e
    rw [hk] at h1
    cases h1
    exact h2
  · exact fun h => ⟨_, v, hp, hk, h⟩
theorem sf_of {n : Str} {y : D} {K : Store → Prop} {fs : List (Str × D)} (hk : putD n y (maD s ta ma ra) = fs) : fldS A.cMachine m p n y K = K (sup m p (.ins A.cMachine fs)) := by
  subst hk
  apply propext
  constructor
  · rintro ⟨fs, e, h1, h2⟩
    rw [hp] at e
    cases e
    exact h2
  · exact fun h => ⟨_, hp, by show 14 < 1000; decide, h⟩
theorem ow_of {n : Str} {K : Prop} (hk : lookD (maD s ta ma ra) n = none) : ownP A.cMachine m p n K = K := by
  apply propext
  constructor
  · rintro ⟨fs, e, h1, h2⟩; exact h2
  · exact fun h => ⟨_, hp, hk, h⟩
theorem gf_dead : fldP A.cMachine m p "dead" R = R (.tup (s.dead.map ch)) m := gf_of hp R (by simp [maD, lookD])
theorem gf_down : fldP A.cMachine m p "down" R = R (.int s.dn) m := gf_of hp R (by simp [maD, lookD])
theorem gf_end : fldP A.cMachine m p "end" R = R (.int (2 * s.c)) m := gf_of hp R (by simp [maD, lookD])
theorem gf_row : fldP A.cMachine m p "row" R = R (.int s.row) m := gf_of hp R (by simp [maD, lookD])
theorem gf_place : fldP A.cMachine m p "place" R = R (.int s.place) m := gf_of hp R (by simp [maD, lookD])
theorem gf_low : fldP A.cMachine m p "low" R = R (.int s.low) m := gf_of hp R (by simp [maD, lookD])
theorem gf_high : fldP A.cMachine m p "high" R = R (.int s.high) m := gf_of hp R (by simp [maD, lookD])
theorem gf_tabs : fldP A.cMachine m p "tabs" R = R (.ref ta) m := gf_of hp R (by simp [maD, lookD])
theorem gf_colour : fldP A.cMachine m p "colour" R = R (colD s.red) m := gf_of hp R (by simp [maD, lookD])
theorem gf_caps : fldP A.cMachine m p "caps" R = R (.bl s.caps) m := gf_of hp R (by simp [maD, lookD])
theorem gf_is_free : fldP A.cMachine m p "is_free" R = R (.bl s.free) m := gf_of hp R (by simp [maD, lookD])
theorem gf_marks : fldP A.cMachine m p "marks" R = R (.ref ma) m := gf_of hp R (by simp [maD, lookD])
theorem gf_rings : fldP A.cMachine m p "rings" R = R (.ref ra) m := gf_of hp R (by simp [maD, lookD])
theorem gf_many : fldP A.cMachine m p "many" R = R (.int s.many) m := gf_of hp R (by simp [maD, lookD])
theorem sf_row (v : Int) (K : Store → Prop) : fldS A.cMachine m p "row" (.int v) K = K (sup m p (.ins A.cMachine (maD { s with row := v } ta ma ra))) := sf_of hp (by simp [maD, putD])
theorem sf_place (v : Int) (K : Store → Prop) : fldS A.cMachine m p "place" (.int v) K = K (sup m p (.ins A.cMachine (maD { s with place := v } ta ma ra))) := sf_of hp (by simp [maD, putD])
theorem sf_low (v : Int) (K : Store → Prop) : fldS A.cMachine m p "low" (.int v) K = K (sup m p (.ins A.cMachine (maD { s with low := v } ta ma ra))) := sf_of hp (by simp [maD, putD])
theorem sf_high (v : Int) (K : Store → Prop) : fldS A.cMachine m p "high" (.int v) K = K (sup m p (.ins A.cMachine (maD { s with high := v } ta ma ra))) := sf_of hp (by simp [maD, putD])
theorem sf_many (v : Int) (K : Store → Prop) : fldS A.cMachine m p "many" (.int v) K = K (sup m p (.ins A.cMachine (maD { s with many := v } ta ma ra))) := sf_of hp (by simp [maD, putD])
theorem sf_caps (v : Bool) (K : Store → Prop) : fldS A.cMachine m p "caps" (.bl v) K = K (sup m p (.ins A.cMachine (maD { s with caps := v } ta ma ra))) := sf_of hp (by simp [maD, putD])
theorem sf_is_free (v : Bool) (K : Store → Prop) : fldS A.cMachine m p "is_free" (.bl v) K = K (sup m p (.ins A.cMachine (maD { s with free := v } ta ma ra))) := sf_of hp (by simp [maD, putD])
theorem sf_colour (v : Bool) (K : Store → Prop) : fldS A.cMachine m p "colour" (colD v) K = K (sup m p (.ins A.cMachine (maD { s with red := v } ta ma ra))) := sf_of hp (by simp [maD, putD])
theorem sf_tabs (a : Addr) (ts : List Int) (K : Store → Prop) : fldS A.cMachine m p "tabs" (.ref a) K = K (sup m p (.ins A.cMachine (maD { s with tabs := ts } a ma ra))) := sf_of hp (by simp [maD, putD])
theorem ow_is_locked {K : Prop} : ownP A.cMachine m p "is_locked" K = K := ow_of hp (by simp [maD, lookD])
theorem ow_go_on {K : Prop} : ownP A.cMachine m p "go_on" K = K := ow_of hp (by simp [maD, lookD])
theorem ow_strike {K : Prop} : ownP A.cMachine m p "strike" K = K := ow_of hp (by simp [maD, lookD])
theorem ow_lift {K : Prop} : ownP A.cMachine m p "lift" K = K := ow_of hp (by simp [maD, lookD])
theorem ow_move {K : Prop} : ownP A.cMachine m p "move" K = K := ow_of hp (by simp [maD, lookD])
theorem ow_roll {K : Prop} : ownP A.cMachine m p "roll" K = K := ow_of hp (by simp [maD, lookD])
theorem ow_set_up {K : Prop} : ownP A.cMachine m p "set_up" K = K := ow_of hp (by simp [maD, lookD])
theorem ow_press {K : Prop} : ownP A.cMachine m p "press" K = K := ow_of hp (by simp [maD, lookD])
theorem ow_stand {K : Prop} : ownP A.cMachine m p "stand" K = K := ow_of hp (by simp [maD, lookD])
end
section
variable {A : Ad} {m0 m : Store} {p ta ma ra : Addr} {s : LW}
theorem MaAt.pt (W : MaAt A m0 p m s ta ma ra) : p ≠ ta := by intro e; have := W.hp; rw [e, W.ht] at this; cases this
theorem MaAt.pm (W : MaAt A m0 p m s ta ma ra) : p ≠ ma := by intro e; have := W.hp; rw [e, W.hm] at this; cases this
theorem MaAt.pr (W : MaAt A m0 p m s ta ma ra) : p ≠ ra := by intro e; have := W.hp; rw [e, W.hr] at this; cases this
theorem sub_sup {a : Addr} {o : MO} (h : Sub m0 m) (n : m0 a = none) : Sub m0 (sup m a o) := fun b u e => by
  rw [sup_ne (ne_sto e n)]; exact h b u e
theorem MaAt.put (W : MaAt A m0 p m s ta ma ra) {s' : LW} (h1 : s'.tabs = s.tabs) (h2 : s'.marks = s.marks) (h3 : s'.rings = s.rings) : MaAt A m0 p (sup m p (.ins A.cMachine (maD s' ta ma ra))) s' ta ma ra :=
  ⟨sub_sup W.sub W.np, W.np, W.nt, W.nm, W.nr, sup_same, by rw [sup_ne W.pt.symm, h1]; exact W.ht, by rw [sup_ne W.pm.symm, h2]; exact W.hm, by rw [sup_ne W.pr.symm, h3]; exact W.hr, W.tm, W.tr, W.mr⟩
theorem MaAt.rings (W : MaAt A m0 p m s ta ma ra) (r : List Int) : MaAt A m0 p (sup m ra (.lst (r.map .int))) { s with rings := r } ta ma ra :=
  ⟨sub_sup W.sub W.nr, W.np, W.nt, W.nm, W.nr, by rw [sup_ne W.pr]; exact W.hp, by rw [sup_ne W.tr]; exact W.ht, by rw [sup_ne W.mr]; exact W.hm, sup_same, W.tm, W.tr, W.mr⟩
theorem MaAt.marks (W : MaAt A m0 p m s ta ma ra) (r : List Mk) : MaAt A m0 p (sup m ma (.lst (r.map mkD))) { s with marks := r } ta ma ra :=
  ⟨sub_sup W.sub W.nm, W.np, W.nt, W.nm, W.nr, by rw [sup_ne W.pm]; exact W.hp, by rw [sup_ne W.tm]; exact W.ht, sup_same, by rw [sup_ne W.mr.symm]; exact W.hr, W.tm, W.tr, W.mr⟩
theorem sub_none {a : Addr} (h : Sub m0 m) (n : m a = none) : m0 a = none := by
  cases e : m0 a with
  | none => rfl
  | some o => rw [h a o e] at n; cases n
theorem MaAt.newtabs (W : MaAt A m0 p m s ta ma ra) {a : Addr} (na : m a = none) (r : List Int) : MaAt A m0 p (sup (sup m a (.lst ((tabsS r).map .int))) p (.ins A.cMachine (maD { s with tabs := r } a ma ra))) { s with tabs := r } a ma ra := by
  have ap : a ≠ p := fun e => by rw [e, W.hp] at na; cases na
  have am : a ≠ ma := fun e => by rw [e, W.hm] at na; cases na
  have ar : a ≠ ra := fun e => by rw [e, W.hr] at na; cases na
  have n0 := sub_none W.sub na
  exact ⟨sub_sup (sub_sup W.sub n0) W.np, W.np, n0, W.nm, W.nr, sup_same, by rw [sup_ne ap]; exact sup_same, by rw [sup_ne W.pm.symm, sup_ne am.symm]; exact W.hm, by rw [sup_ne W.pr.symm, sup_ne ar.symm]; exact W.hr, am, ar, W.mr⟩
theorem MaAt.oldtabs (W : MaAt A m0 p m s ta ma ra) (r : List Int) : MaAt A m0 p (sup m ta (.lst ((tabsS r).map .int))) { s with tabs := r } ta ma ra :=
  ⟨sub_sup W.sub W.nt, W.np, W.nt, W.nm, W.nr, by rw [sup_ne W.pt]; exact W.hp, sup_same, by rw [sup_ne W.tm.symm]; exact W.hm, by rw [sup_ne W.tr.symm]; exact W.hr, W.tm, W.tr, W.mr⟩
end
end DL
end
section
set_option maxHeartbeats 0
namespace DL
open PySem
theorem rise_ext : ∀ {xs ys : List Int}, xs.Pairwise (· < ·) → ys.Pairwise (· < ·) → (∀ k, k ∈ xs ↔ k ∈ ys) → xs = ys
  | [], [], _, _, _ => rfl
  | [], y :: ys, _, _, h => absurd ((h y).mpr List.mem_cons_self) (by simp)
  | x :: xs, [], _, _, h => absurd ((h x).mp List.mem_cons_self) (by simp)
  | x :: xs, y :: ys, hx, hy, h => by
    obtain ⟨x1, x2⟩ := List.pairwise_cons.mp hx
    obtain ⟨y1, y2⟩ := List.pairwise_cons.mp hy
    have e : x = y := by
      rcases List.mem_cons.mp ((h x).mp List.mem_cons_self) with e | e
      · exact e
      · rcases List.mem_cons.mp ((h y).mpr List.mem_cons_self) with e' | e'
        · exact e'.symm
        · have := x1 y e'; have := y1 x e; omega
    subst e
    rw [rise_ext x2 y2 fun k => ?_]
    have hk := h k
    constructor
    · intro m
      rcases List.mem_cons.mp (hk.mp (List.mem_cons_of_mem _ m)) with e | e
      · subst e; have := x1 k m; omega
      · exact e
    · intro m
      rcases List.mem_cons.mp (hk.mpr (List.mem_cons_of_mem _ m)) with e | e
      · subst e; have := y1 k m; omega
      · exact e
theorem rise_len : ∀ {xs : List Int} {lo hi : Int}, xs.Pairwise (· < ·) → (∀ k ∈ xs, lo ≤ k ∧ k ≤ hi) → (xs.length : Int) ≤ max 0 (hi - lo + 1)
  | [], lo, hi, _, _ => by simp; omega
  | x :: xs, lo, hi, h, b => by
    obtain ⟨h1, h2⟩ := List.pairwise_cons.mp h
    have b0 := b x List.mem_cons_self
    have ih := rise_len (lo := x + 1) (hi := hi) h2 fun k hk => ⟨by have := h1 k hk; omega, (b k (List.mem_cons_of_mem _ hk)).2⟩
    simp only [List.length_cons]
    omega
theorem lt_of_le_nd : ∀ {l : List Int}, l.Pairwise (· ≤ ·) → l.Nodup → l.Pairwise (· < ·)
  | [], _, _ => .nil
  | x :: l, h, d => by
    obtain ⟨h1, h2⟩ := List.pairwise_cons.mp h
    obtain ⟨d1, d2⟩ := List.nodup_cons.mp d
    refine List.pairwise_cons.mpr ⟨fun y hy => ?_, lt_of_le_nd h2 d2⟩
    have := h1 y hy
    have : x ≠ y := fun e => d1 (e ▸ hy)
    omega
theorem nd_of_lt {l : List Int} (h : l.Pairwise (· < ·)) : l.Nodup := h.imp fun h e => by omega
theorem tabsS_perm (ts : List Int) : (tabsS ts).Perm ts := List.mergeSort_perm _ _
theorem tabsS_mem (ts : List Int) (k : Int) : k ∈ tabsS ts ↔ k ∈ ts := (tabsS_perm ts).mem_iff
theorem tabsS_le (ts : List Int) : (tabsS ts).Pairwise (· ≤ ·) := by
  have h := List.pairwise_mergeSort (le := fun a b : Int => decide (a ≤ b)) (fun a b c h1 h2 => by simp at h1 h2 ⊢; omega) (fun a b => by simp; omega) ts
  exact h.imp fun h => by simpa using h
theorem tabsS_lt {ts : List Int} (h : ts.Nodup) : (tabsS ts).Pairwise (· < ·) := lt_of_le_nd (tabsS_le ts) ((tabsS_perm ts).nodup_iff.mpr h)
theorem tabsS_is {ts ns : List Int} (h : ts.Nodup) (h1 : ns.Pairwise (· < ·)) (h2 : ∀ k, k ∈ ns ↔ k ∈ ts) : ns = tabsS ts :=
  rise_ext h1 (tabsS_lt h) fun k => by rw [h2, tabsS_mem]
theorem tabsS_of_perm {ts ns : List Int} (h : ts.Nodup) (h1 : ns.Pairwise (· ≤ ·)) (h2 : ns.Perm ts) : ns = tabsS ts :=
  tabsS_is h (lt_of_le_nd h1 (h2.nodup_iff.mpr h)) fun k => h2.mem_iff
theorem LW.ok.tl {s : LW} (h : s.ok) : s.tabs.length ≤ 81 := by
  have h1 := rise_len (lo := 0) (hi := 2 * s.c) (tabsS_lt h.td) fun k hk => h.tb k ((tabsS_mem _ k).mp hk)
  have h2 := (tabsS_perm s.tabs).length_eq
  have := h.c1
  omega
theorem new_ok {c : Int} {dead : List Nat} {dn : Int} (h : MOk c dead dn) : (newS c dead dn).ok := by
  have h1 := h.lo; have h2 := h.hi
  refine ⟨h1, h2, h.d2, h.d4, ?_, ?_, ?_, ?_, ?_, ?_, ?_, ?_, ?_, ?_, ?_, ?_, ?_⟩ <;> first | (show (_ : Int) ≤ _; simp [newS, newL]; done) | (show (_ : Int) ≤ _; simp [newS, newL]; omega) | simp [newS, newL]
theorem ok_go {s : LW} {q : Int} (h : s.ok) (h0 : 0 ≤ q) (h1 : q ≤ 2 * s.c) : (goL s q).ok :=
  ⟨h.c0, h.c1, h.d2, h.d4, h0, h1, h.l0, h.l1, h.h0, h.h1, h.r0, h.r1, h.td, h.tb, h.mn, h.mb, h.m0⟩
theorem shut_no {s : LW} {q : Int} (h : ¬ shutL s q = true) : q ≤ 2 * s.c := by
  simp [shutL] at h; omega
theorem ok_on {s : LW} {q : Int} (h : s.ok) (h0 : 0 ≤ q) : (onL s q).1.ok := by
  unfold onL
  split
  · exact h
  · rename_i hs; exact ok_go h h0 (shut_no hs)
theorem ok_row {s : LW} {r : Int} {b : Bool} (h : s.ok) : (rowL s r b).1.ok := by
  unfold rowL
  split
  · exact h
  · split
    · exact ⟨h.c0, h.c1, h.d2, h.d4, h.l0, h.l1, h.l0, h.l1, h.h0, h.h1, by show 0 ≤ r; omega, by show r ≤ 60; omega, h.td, h.tb, h.mn, h.mb, h.m0⟩
    · exact ⟨h.c0, h.c1, h.d2, h.d4, h.p0, h.p1, h.l0, h.l1, h.h0, h.h1, by show 0 ≤ r; omega, by show r ≤ 60; omega, h.td, h.tb, h.mn, h.mb, h.m0⟩
theorem ok_marks {s : LW} (h : s.ok) {ms : List Mk} (h1 : ms.Pairwise (fun a b => a.n < b.n)) (h2 : ∀ k ∈ ms, k.n < s.many) : LW.ok { s with marks := ms } :=
  ⟨h.c0, h.c1, h.d2, h.d4, h.p0, h.p1, h.l0, h.l1, h.h0, h.h1, h.r0, h.r1, h.td, h.tb, h1, h2, h.m0⟩
theorem tab_min (s : LW) : tabL s = 999 ∨ (tabL s ∈ s.tabs ∧ s.place < tabL s) := by
  unfold tabL
  cases e : ((s.tabs.filter fun t => decide (s.place < t)) ++ [999]).min? with
  | none => simp at e
  | some v =>
    have hv := List.mem_of_mem_head? (l := [v]) (a := v) (by simp)
    have hm : v ∈ (s.tabs.filter fun t => decide (s.place < t)) ++ [999] := List.min?_mem e
    rcases List.mem_append.mp hm with z | z
    · simp at z; exact .inr z
    · simp at z; exact .inl z
theorem ok_step {s : LW} {k : Ky} (h : s.ok) : (stepL1 s k).1.ok := by
  have p0 := h.p0; have p1 := h.p1
  cases k <;> simp only [stepL1] <;> first | exact h | exact ok_row h | skip
  · exact ok_on h (by omega)
  · exact ok_on h (by omega)
  · split
    · exact h
    · exact ⟨h.c0, h.c1, h.d2, h.d4, by show 0 ≤ s.place - 2; omega, by show s.place - 2 ≤ 2 * s.c; omega, h.l0, h.l1, h.h0, h.h1, h.r0, h.r1, h.td, h.tb, h.mn, h.mb, h.m0⟩
  · refine ok_on h ?_
    rcases tab_min s with e | e
    · rw [e]; decide
    · exact (h.tb _ e.1).1
theorem nd_filter {ts : List Int} (h : ts.Nodup) (p : Int) : (ts.filter (fun t => decide (t ≠ p)) ++ [p]).Nodup := by
  rw [List.nodup_append]
  refine ⟨h.filter _, by simp, fun a ha b hb => ?_⟩
  simp at ha hb
  intro e; exact ha.2 (e.trans hb)
theorem ok_turn {s : LW} {k : Ky} (h : s.ok) : (turnL s k).1.ok := by
  cases k <;> simp only [turnL] <;> first | exact h | skip
  · split
    · exact ⟨h.c0, h.c1, h.d2, h.d4, h.p0, h.p1, h.p0, h.p1, h.h0, h.h1, h.r0, h.r1, h.td, h.tb, h.mn, h.mb, h.m0⟩
    · exact h
  · split
    · exact ⟨h.c0, h.c1, h.d2, h.d4, h.p0, h.p1, h.l0, h.l1, h.p0, h.p1, h.r0, h.r1, h.td, h.tb, h.mn, h.mb, h.m0⟩
    · exact h
  · refine ⟨h.c0, h.c1, h.d2, h.d4, h.p0, h.p1, h.l0, h.l1, h.h0, h.h1, h.r0, h.r1, nd_filter h.td _, fun t ht => ?_, h.mn, h.mb, h.m0⟩
    rcases List.mem_append.mp ht with z | z
    · exact h.tb t (List.mem_filter.mp z).1
    · simp at z; subst z; exact ⟨h.p0, h.p1⟩
  · split
    · exact ⟨h.c0, h.c1, h.d2, h.d4, h.p0, h.p1, h.l0, h.l1, h.h0, h.h1, h.r0, h.r1, h.td.filter _, fun t ht => h.tb t (List.mem_filter.mp ht).1, h.mn, h.mb, h.m0⟩
    · exact h
  · exact ⟨h.c0, h.c1, h.d2, h.d4, h.p0, h.p1, h.l0, h.l1, h.h0, h.h1, h.r0, h.r1, .nil, fun t ht => by simp at ht, h.mn, h.mb, h.m0⟩
  · exact ⟨h.c0, h.c1, h.d2, h.d4, h.p0, h.p1, h.l0, h.l1, h.h0, h.h1, h.r0, h.r1, h.td, h.tb, h.mn, h.mb, h.m0⟩
  · exact ⟨h.c0, h.c1, h.d2, h.d4, h.p0, h.p1, h.l0, h.l1, h.h0, h.h1, h.r0, h.r1, h.td, h.tb, h.mn, h.mb, h.m0⟩
  · exact ⟨h.c0, h.c1, h.d2, h.d4, h.p0, h.p1, h.l0, h.l1, h.h0, h.h1, h.r0, h.r1, h.td, h.tb, h.mn, h.mb, h.m0⟩
theorem inkM_n {s : LW} {st : Bool} {c : Nat} (h : s.ok) : (inkM s st c).1.Pairwise (fun a b => a.n < b.n) ∧ ∀ k ∈ (inkM s st c).1, k.n < s.many + 1 := by
  unfold inkM
  split
  · refine ⟨List.pairwise_append.mpr ⟨h.mn, by simp, fun a ha b hb => ?_⟩, fun k hk => ?_⟩
    · simp at hb; subst hb; exact h.mb a ha
    · rcases List.mem_append.mp hk with z | z
      · have := h.mb k z; omega
      · simp at z; subst z; show s.many < s.many + 1; omega
  · split
    · exact ⟨h.mn, fun k hk => by have := h.mb k hk; omega⟩
    · exact ⟨h.mn.sublist List.erase_sublist, fun k hk => by have := h.mb k (List.mem_of_mem_erase hk); omega⟩
theorem ok_many {s : LW} (h : s.ok) : LW.ok { s with many := s.many + 1 } :=
  ⟨h.c0, h.c1, h.d2, h.d4, h.p0, h.p1, h.l0, h.l1, h.h0, h.h1, h.r0, h.r1, h.td, h.tb, h.mn, fun k hk => by have := h.mb k hk; show k.n < s.many + 1; omega, by have := h.m0; show 0 ≤ s.many + 1; omega⟩
theorem ok_ink {s : LW} {st : Bool} {c : Nat} (h : s.ok) : LW.ok { (inkL s st c).1 with many := (inkL s st c).1.many + 1 } := by
  unfold inkL
  split
  · exact ok_many h
  · rename_i hs
    have hq := shut_no hs
    have hp := h.p0
    obtain ⟨h1, h2⟩ := inkM_n (st := st) (c := c) h
    simp only
    split
    · exact ⟨h.c0, h.c1, h.d2, h.d4, h.p0, h.p1, h.l0, h.l1, h.h0, h.h1, h.r0, h.r1, h.td, h.tb, h1, h2, by have := h.m0; show 0 ≤ s.many + 1; omega⟩
    · exact ⟨h.c0, h.c1, h.d2, h.d4, by show 0 ≤ s.place + 2; omega, hq, h.l0, h.l1, h.h0, h.h1, h.r0, h.r1, h.td, h.tb, h1, h2, by have := h.m0; show 0 ≤ s.many + 1; omega⟩
theorem ok_press {s : LW} {k : Ky} (h : s.ok) : (pressL s k).1.ok := by
  unfold pressL actL
  cases k with
  | sign c => exact ok_ink h
  | lift c => exact ok_ink h
  | left => exact ok_many (s := (turnL s .left).1) (ok_turn h)
  | right => exact ok_many (s := (turnL s .right).1) (ok_turn h)
  | set => exact ok_many (s := (turnL s .set).1) (ok_turn h)
  | clear => exact ok_many (s := (turnL s .clear).1) (ok_turn h)
  | all => exact ok_many (s := (turnL s .all).1) (ok_turn h)
  | free => exact ok_many (s := (turnL s .free).1) (ok_turn h)
  | ribbon => exact ok_many (s := (turnL s .ribbon).1) (ok_turn h)
  | caps => exact ok_many (s := (turnL s .caps).1) (ok_turn h)
  | blank => exact ok_many (s := (stepL1 s .blank).1) (ok_step h)
  | half => exact ok_many (s := (stepL1 s .half).1) (ok_step h)
  | back => exact ok_many (s := (stepL1 s .back).1) (ok_step h)
  | tab => exact ok_many (s := (stepL1 s .tab).1) (ok_step h)
  | ret => exact ok_many (s := (stepL1 s .ret).1) (ok_step h)
  | up => exact ok_many (s := (stepL1 s .up).1) (ok_step h)
  | down => exact ok_many (s := (stepL1 s .down).1) (ok_step h)
theorem ok_run : ∀ {ks : List Ky} {s : LW}, s.ok → (runL s ks).1.ok
  | [], _, h => h
  | k :: ks, _, h => ok_run (ks := ks) (ok_press h)
end DL
end
section
set_option maxHeartbeats 0
namespace DL
open PySem
def psi_struck_as (A : Ad) : WS := wRet (wIf (wAnd (wTest (wVar 1)) (wTest (wOp wIn (wVar 0) (wC (.str G_LETTERS))))) (wOp wIx (wC (.str G_GREAT)) (wMt "str" wSIndex (wC (.str G_LETTERS)) (wCons (wVar 0) (wNil)))) (wVar 0))
def psi_Machine___init___t13 (A : Ad) : WS := wFldS A.cMachine "many" (wVar 0) (wC (.int 0))
def psi_Machine___init___t12 (A : Ad) : WS := wSeq (wFldS A.cMachine "rings" (wVar 0) (wLst true (wNil))) (psi_Machine___init___t13 A)
def psi_Machine___init___t11 (A : Ad) : WS := wSeq (wFldS A.cMachine "marks" (wVar 0) (wLst true (wNil))) (psi_Machine___init___t12 A)
def psi_Machine___init___t10 (A : Ad) : WS := wSeq (wFldS A.cMachine "is_free" (wVar 0) (wC (.bl false))) (psi_Machine___init___t11 A)
def psi_Machine___init___t9 (A : Ad) : WS := wSeq (wFldS A.cMachine "caps" (wVar 0) (wC (.bl false))) (psi_Machine___init___t10 A)
def psi_Machine___init___t8 (A : Ad) : WS := wSeq (wFldS A.cMachine "colour" (wVar 0) (wC (.str (PySem.Str.ofString "black")))) (psi_Machine___init___t9 A)
def psi_Machine___init___t7 (A : Ad) : WS := wSeq (wFldS A.cMachine "tabs" (wVar 0) (wCallB (wList true) (wCons (wVar 2) (wNil)))) (psi_Machine___init___t8 A)
def psi_Machine___init___t6 (A : Ad) : WS := wSeq (wFldS A.cMachine "high" (wVar 0) (wFld A.cMachine "end" (wVar 0))) (psi_Machine___init___t7 A)
def psi_Machine___init___t5 (A : Ad) : WS := wSeq (wFldS A.cMachine "low" (wVar 0) (wC (.int 0))) (psi_Machine___init___t6 A)
def psi_Machine___init___t4 (A : Ad) : WS := wSeq (wFldS A.cMachine "place" (wVar 0) (wC (.int 0))) (psi_Machine___init___t5 A)
def psi_Machine___init___t3 (A : Ad) : WS := wSeq (wFldS A.cMachine "row" (wVar 0) (wC (.int 0))) (psi_Machine___init___t4 A)
def psi_Machine___init___t2 (A : Ad) : WS := wSeq (wFldS A.cMachine "end" (wVar 0) (wCall 1 (ph_end_of A) (wCons (wVar 1) (wNil)))) (psi_Machine___init___t3 A)
def psi_Machine___init___t1 (A : Ad) : WS := wSeq (wFldS A.cMachine "down" (wVar 0) (wOp wIx (wVar 1) (wC (.int 2)))) (psi_Machine___init___t2 A)
def psi_Machine___init__ (A : Ad) : WS := wSeq (wFldS A.cMachine "dead" (wVar 0) (wOp wIx (wVar 1) (wC (.int 1)))) (psi_Machine___init___t1 A)
def psi_Machine_is_locked (A : Ad) : WS := wRet (wOrV (wOp wGt (wVar 1) (wFld A.cMachine "end" (wVar 0))) (wAndV (wNotV (wFld A.cMachine "is_free" (wVar 0))) (wOp wGt (wVar 1) (wFld A.cMachine "high" (wVar 0)))))
def psi_Machine_go_on (A : Ad) : WS := wSeq (wIfS (wTest (wChain wLt wLe (wFld A.cMachine "place" (wVar 0)) (wOp wSub (wFld A.cMachine "high" (wVar 0)) (wC (.int 10))) (wVar 1))) (wExp (wMt "list" wAppend (wFld A.cMachine "rings" (wVar 0)) (wCons (wFld A.cMachine "many" (wVar 0)) (wNil)))) (wNext)) (wFldS A.cMachine "place" (wVar 0) (wVar 1))
def psi_Machine_strike_t4 (A : Ad) : WS := wRet (wOp (wAdd false) (wTup (wCons (wC (.str (PySem.Str.ofString "struck"))) (wNil))) (wVar 2))
def psi_Machine_strike_t3 (A : Ad) : WS := wSeq (wIfS (wTest (wOp wNotIn (wVar 1) (wFld A.cMachine "dead" (wVar 0)))) (wExp (wOwn1 A.cMachine "go_on" 2 (ph_Machine_go_on A) (wVar 0) (wCons (wOp (wAdd false) (wFld A.cMachine "place" (wVar 0)) (wC (.int 2))) (wNil)))) (wNext)) (psi_Machine_strike_t4 A)
def psi_Machine_strike_t2 (A : Ad) : WS := wSeq (wExp (wMt "list" wAppend (wFld A.cMachine "marks" (wVar 0)) (wCons (wOp (wAdd false) (wTup (wCons (wFld A.cMachine "many" (wVar 0)) (wNil))) (wVar 2)) (wNil)))) (psi_Machine_strike_t3 A)
def psi_Machine_strike_t1 (A : Ad) : WS := wSeq (wSet 2 (wTup (wCons (wFld A.cMachine "row" (wVar 0)) (wCons (wFld A.cMachine "place" (wVar 0)) (wCons (wCall 2 (ph_struck_as A) (wCons (wVar 1) (wCons (wFld A.cMachine "caps" (wVar 0)) (wNil)))) (wCons (wFld A.cMachine "colour" (wVar 0)) (wNil))))))) (psi_Machine_strike_t2 A)
def psi_Machine_strike (A : Ad) : WS := wSeq (wIfS (wTest (wOwn1 A.cMachine "is_locked" 2 (ph_Machine_is_locked A) (wVar 0) (wCons (wOp (wAdd false) (wFld A.cMachine "place" (wVar 0)) (wC (.int 2))) (wNil)))) (wRet (wTup (wCons (wC (.str (PySem.Str.ofString "locked"))) (wNil)))) (wNext)) (psi_Machine_strike_t1 A)
def psi_Machine_lift_t6 (A : Ad) : WS := wRet (wVar 4)
def psi_Machine_lift_t5 (A : Ad) : WS := wSeq (wIfS (wTest (wOp wNotIn (wVar 1) (wFld A.cMachine "dead" (wVar 0)))) (wExp (wOwn1 A.cMachine "go_on" 2 (ph_Machine_go_on A) (wVar 0) (wCons (wOp (wAdd false) (wFld A.cMachine "place" (wVar 0)) (wC (.int 2))) (wNil)))) (wNext)) (psi_Machine_lift_t6 A)
def psi_Machine_lift_t4 (A : Ad) : WS := wSeq (wIfS (wTest (wOp wNe (wVar 3) (wLst false (wNil)))) (wSet 4 (wOp (wAdd false) (wTup (wCons (wC (.str (PySem.Str.ofString "lifted"))) (wNil))) (wSl (wCut false) (wMt "list" wPopAt (wFld A.cMachine "marks" (wVar 0)) (wCons (wOp wIx (wVar 3) (wUn wNeg (wC (.int 1)))) (wNil))) (oSome (wC (.int 1))) (oNone)))) (wNext)) (psi_Machine_lift_t5 A)
def psi_Machine_lift_t3 (A : Ad) : WS := wSeq (wSet 4 (wOp (wAdd false) (wTup (wCons (wC (.str (PySem.Str.ofString "nothing"))) (wNil))) (wSl (wCut false) (wVar 2) (oNone) (oSome (wC (.int 2)))))) (psi_Machine_lift_t4 A)
def psi_Machine_lift_t2 (A : Ad) : WS := wSeq (wSet 3 (wLc false [5, 6] (iEnumL (wFld A.cMachine "marks" (wVar 0))) (gTp [5, 6]) (wTest (wOp wEq (wSl (wCut false) (wVar 6) (oSome (wC (.int 1))) (oSome (wC (.int 4)))) (wVar 2))) (wVar 5))) (psi_Machine_lift_t3 A)
def psi_Machine_lift_t1 (A : Ad) : WS := wSeq (wSet 2 (wTup (wCons (wFld A.cMachine "row" (wVar 0)) (wCons (wFld A.cMachine "place" (wVar 0)) (wCons (wCall 2 (ph_struck_as A) (wCons (wVar 1) (wCons (wFld A.cMachine "caps" (wVar 0)) (wNil)))) (wNil)))))) (psi_Machine_lift_t2 A)
def psi_Machine_lift (A : Ad) : WS := wSeq (wIfS (wTest (wOwn1 A.cMachine "is_locked" 2 (ph_Machine_is_locked A) (wVar 0) (wCons (wOp (wAdd false) (wFld A.cMachine "place" (wVar 0)) (wC (.int 2))) (wNil)))) (wRet (wTup (wCons (wC (.str (PySem.Str.ofString "locked"))) (wNil)))) (wNext)) (psi_Machine_lift_t1 A)
def psi_Machine_move_t5 (A : Ad) : WS := wRet (wTup (wCons (wC (.str (PySem.Str.ofString "moved"))) (wCons (wFld A.cMachine "row" (wVar 0)) (wCons (wVar 2) (wNil)))))
def psi_Machine_move_t4 (A : Ad) : WS := wSeq (wExp (wOwn1 A.cMachine "go_on" 2 (ph_Machine_go_on A) (wVar 0) (wCons (wVar 2) (wNil)))) (psi_Machine_move_t5 A)
def psi_Machine_move_t3 (A : Ad) : WS := wSeq (wIfS (wTest (wOwn1 A.cMachine "is_locked" 2 (ph_Machine_is_locked A) (wVar 0) (wCons (wVar 2) (wNil)))) (wRet (wTup (wCons (wC (.str (PySem.Str.ofString "locked"))) (wNil)))) (wNext)) (psi_Machine_move_t4 A)
def psi_Machine_move_t2 (A : Ad) : WS := wSeq (wIfS (wTest (wOp wEq (wVar 1) (wC (.str (PySem.Str.ofString "tab"))))) (wSet 2 (wOp wIx (wOp (wAdd false) (wLc false [3] (iSeq (wFld A.cMachine "tabs" (wVar 0))) (gNm 3) (wTest (wOp wGt (wVar 3) (wFld A.cMachine "place" (wVar 0)))) (wVar 3)) (wLst false (wCons (wOp (wAdd false) (wFld A.cMachine "end" (wVar 0)) (wC (.int 1))) (wNil)))) (wC (.int 0)))) (wNext)) (psi_Machine_move_t3 A)
def psi_Machine_move_t1 (A : Ad) : WS := wSeq (wSet 2 (wOp (wAdd false) (wFld A.cMachine "place" (wVar 0)) (wDispGet2 [(wC (.str (PySem.Str.ofString "blank")), wC (.int 2)), (wC (.str (PySem.Str.ofString "half")), wC (.int 1))] (wVar 1) (wC (.int 0))))) (psi_Machine_move_t2 A)
def psi_Machine_move (A : Ad) : WS := wSeq (wIfS (wTest (wOp wEq (wVar 1) (wC (.str (PySem.Str.ofString "back"))))) (wSeq (wSet 2 (wOp wSub (wFld A.cMachine "place" (wVar 0)) (wC (.int 2)))) (wSeq (wIfS (wOr (wTest (wOp wLt (wVar 2) (wC (.int 0)))) (wAnd (wNot (wTest (wFld A.cMachine "is_free" (wVar 0)))) (wTest (wChain wLt wLe (wVar 2) (wFld A.cMachine "low" (wVar 0)) (wFld A.cMachine "place" (wVar 0)))))) (wRet (wTup (wCons (wC (.str (PySem.Str.ofString "locked"))) (wNil)))) (wNext)) (wSeq (wFldS A.cMachine "place" (wVar 0) (wVar 2)) (wRet (wTup (wCons (wC (.str (PySem.Str.ofString "moved"))) (wCons (wFld A.cMachine "row" (wVar 0)) (wCons (wVar 2) (wNil))))))))) (wNext)) (psi_Machine_move_t1 A)
def psi_Machine_roll_t4 (A : Ad) : WS := wRet (wTup (wCons (wC (.str (PySem.Str.ofString "moved"))) (wCons (wVar 2) (wCons (wFld A.cMachine "place" (wVar 0)) (wNil)))))
def psi_Machine_roll_t3 (A : Ad) : WS := wSeq (wIfS (wTest (wOp wEq (wVar 1) (wC (.str (PySem.Str.ofString "return"))))) (wSeq (wFldS A.cMachine "place" (wVar 0) (wFld A.cMachine "low" (wVar 0))) (wFldS A.cMachine "is_free" (wVar 0) (wC (.bl false)))) (wNext)) (psi_Machine_roll_t4 A)
def psi_Machine_roll_t2 (A : Ad) : WS := wSeq (wFldS A.cMachine "row" (wVar 0) (wVar 2)) (psi_Machine_roll_t3 A)
def psi_Machine_roll_t1 (A : Ad) : WS := wSeq (wIfS (wNot (wTest (wChain wLe wLe (wC (.int 0)) (wVar 2) (wC (.int 60))))) (wRet (wTup (wCons (wC (.str (PySem.Str.ofString "locked"))) (wNil)))) (wNext)) (psi_Machine_roll_t2 A)
def psi_Machine_roll (A : Ad) : WS := wSeq (wSet 2 (wOp (wAdd false) (wFld A.cMachine "row" (wVar 0)) (wDispGet2 [(wC (.str (PySem.Str.ofString "return")), wFld A.cMachine "down" (wVar 0)), (wC (.str (PySem.Str.ofString "up")), wUn wNeg (wC (.int 1)))] (wVar 1) (wC (.int 1))))) (psi_Machine_roll_t1 A)
def psi_Machine_set_up_t1 (A : Ad) : WS := wRet (wTup (wCons (wC (.str (PySem.Str.ofString "done"))) (wNil)))
def psi_Machine_set_up (A : Ad) : WS := wSeq (wIfS (wAnd (wTest (wOp wEq (wVar 1) (wC (.str (PySem.Str.ofString "left"))))) (wTest (wOp wLt (wFld A.cMachine "place" (wVar 0)) (wFld A.cMachine "high" (wVar 0))))) (wFldS A.cMachine "low" (wVar 0) (wFld A.cMachine "place" (wVar 0))) (wIfS (wAnd (wTest (wOp wEq (wVar 1) (wC (.str (PySem.Str.ofString "right"))))) (wTest (wOp wGt (wFld A.cMachine "place" (wVar 0)) (wFld A.cMachine "low" (wVar 0))))) (wFldS A.cMachine "high" (wVar 0) (wFld A.cMachine "place" (wVar 0))) (wIfS (wTest (wOp wEq (wVar 1) (wC (.str (PySem.Str.ofString "set"))))) (wFldS A.cMachine "tabs" (wVar 0) (wSrtSetI true (wOp (wAdd false) (wFld A.cMachine "tabs" (wVar 0)) (wLst false (wCons (wFld A.cMachine "place" (wVar 0)) (wNil)))))) (wIfS (wAnd (wTest (wOp wEq (wVar 1) (wC (.str (PySem.Str.ofString "clear"))))) (wTest (wOp wIn (wFld A.cMachine "place" (wVar 0)) (wFld A.cMachine "tabs" (wVar 0))))) (wExp (wMt "list" wRemI (wFld A.cMachine "tabs" (wVar 0)) (wCons (wFld A.cMachine "place" (wVar 0)) (wNil)))) (wIfS (wTest (wOp wEq (wVar 1) (wC (.str (PySem.Str.ofString "all"))))) (wFldS A.cMachine "tabs" (wVar 0) (wLst true (wNil))) (wIfS (wTest (wOp wEq (wVar 1) (wC (.str (PySem.Str.ofString "free"))))) (wFldS A.cMachine "is_free" (wVar 0) (wC (.bl true))) (wIfS (wTest (wOp wEq (wVar 1) (wC (.str (PySem.Str.ofString "ribbon"))))) (wFldS A.cMachine "colour" (wVar 0) (wIf (wTest (wOp wEq (wFld A.cMachine "colour" (wVar 0)) (wC (.str (PySem.Str.ofString "black"))))) (wC (.str (PySem.Str.ofString "red"))) (wC (.str (PySem.Str.ofString "black"))))) (wIfS (wTest (wOp wEq (wVar 1) (wC (.str (PySem.Str.ofString "caps"))))) (wFldS A.cMachine "caps" (wVar 0) (wNotV (wFld A.cMachine "caps" (wVar 0)))) (wRet (wTup (wCons (wC (.str (PySem.Str.ofString "locked"))) (wNil)))))))))))) (psi_Machine_set_up_t1 A)
def psi_Machine_press_t2 (A : Ad) : WS := wRet (wVar 2)
def psi_Machine_press_t1 (A : Ad) : WS := wSeq (wFldS A.cMachine "many" (wVar 0) (wOp (wAdd false) (wFld A.cMachine "many" (wVar 0)) (wC (.int 1)))) (psi_Machine_press_t2 A)
def psi_Machine_press (A : Ad) : WS := wSeq (wIfS (wTest (wOp wEq (wOp wIx (wVar 1) (wC (.int 0))) (wC (.str (PySem.Str.ofString "sign"))))) (wSet 2 (wOwn1 A.cMachine "strike" 2 (ph_Machine_strike A) (wVar 0) (wCons (wOp wIx (wVar 1) (wC (.int 1))) (wNil)))) (wIfS (wTest (wOp wEq (wOp wIx (wVar 1) (wC (.int 0))) (wC (.str (PySem.Str.ofString "lift"))))) (wSet 2 (wOwn1 A.cMachine "lift" 2 (ph_Machine_lift A) (wVar 0) (wCons (wOp wIx (wVar 1) (wC (.int 1))) (wNil)))) (wIfS (wTest (wOp wIn (wOp wIx (wVar 1) (wC (.int 0))) (wTup (wCons (wC (.str (PySem.Str.ofString "blank"))) (wCons (wC (.str (PySem.Str.ofString "half"))) (wCons (wC (.str (PySem.Str.ofString "back"))) (wCons (wC (.str (PySem.Str.ofString "tab"))) (wNil)))))))) (wSet 2 (wOwn1 A.cMachine "move" 2 (ph_Machine_move A) (wVar 0) (wCons (wOp wIx (wVar 1) (wC (.int 0))) (wNil)))) (wIfS (wTest (wOp wIn (wOp wIx (wVar 1) (wC (.int 0))) (wTup (wCons (wC (.str (PySem.Str.ofString "return"))) (wCons (wC (.str (PySem.Str.ofString "up"))) (wCons (wC (.str (PySem.Str.ofString "down"))) (wNil))))))) (wSet 2 (wOwn1 A.cMachine "roll" 2 (ph_Machine_roll A) (wVar 0) (wCons (wOp wIx (wVar 1) (wC (.int 0))) (wNil)))) (wSet 2 (wOwn1 A.cMachine "set_up" 2 (ph_Machine_set_up A) (wVar 0) (wCons (wOp wIx (wVar 1) (wC (.int 0))) (wNil)))))))) (psi_Machine_press_t1 A)
def psi_Machine_stand (A : Ad) : WS := wSeq (wSet 1 (wTup (wCons (wFld A.cMachine "row" (wVar 0)) (wCons (wFld A.cMachine "place" (wVar 0)) (wCons (wFld A.cMachine "low" (wVar 0)) (wCons (wFld A.cMachine "high" (wVar 0)) (wNil))))))) (wRet (wOp (wAdd false) (wVar 1) (wTup (wCons (wCallB wTuple (wCons (wFld A.cMachine "tabs" (wVar 0)) (wNil))) (wCons (wFld A.cMachine "colour" (wVar 0)) (wCons (wFld A.cMachine "caps" (wVar 0)) (wCons (wFld A.cMachine "is_free" (wVar 0)) (wNil))))))))
def psi_worked (A : Ad) : WS := wSeq (wSet 3 (wMake A.cMachine 3 (ph_Machine___init__ A) (wCons (wVar 0) (wCons (wVar 1) (wNil))))) (wSeq (wSet 4 (wLc false [5] (iSeq (wVar 2)) (gNm 5) (wYes) (wOwn1 A.cMachine "press" 2 (ph_Machine_press A) (wVar 3) (wCons (wVar 5) (wNil))))) (wRet (wTup (wCons (wVar 3) (wCons (wVar 4) (wNil))))))
end DL
end
section
set_option maxHeartbeats 0
namespace DL
open PySem
theorem letters_c : G_LETTERS.cps.toList = List.range' 97 26 := by decide +kernel
theorem great_c : G_GREAT.cps.toList = List.range' 65 26 := by decide +kernel
variable {A : Ad} (hA : AdOk A)
include hA
theorem dt_struck_as : ∀ ds m R x, ph_struck_as A ds m R x → psi_struck_as A (startD 2 ds) m (endD R x) := by
  rintro ds m R x ⟨c, b, rfl, h⟩
  have hg : (c ∈ G_LETTERS.cps.toList) ↔ 97 ≤ c ∧ c < 123 := by rw [letters_c, List.mem_range'_1]
  simp [psi_struck_as, wIn, wInB]
  cases b with
  | false => simpa using h
  | true =>
    simp
    by_cases hc : 97 ≤ c ∧ c < 123
    · have hg' : c ∈ G_LETTERS.cps := by rw [← Array.mem_toList_iff]; exact hg.mpr hc
      simp [hg', tyM, wSIndex]
      refine ⟨c - 97, ?_, fun j hj => ?_, ?_⟩
      · have e : G_LETTERS.cps.toList[c - 97]? = some c := by
          rw [letters_c, List.getElem?_range' (by omega)]; simp; omega
        simpa using e
      · have e : G_LETTERS.cps.toList[j]? = some (97 + j) := by
          rw [letters_c, List.getElem?_range' (by omega)]; simp
        have e' : G_LETTERS.cps[j]? = some (97 + j) := by simpa using e
        rw [e']; intro z; cases z; omega
      · have e : atL G_GREAT.cps.toList ((c - 97 : Nat) : Int) = some (c - 32) := by
          rw [atL_nat, great_c, List.getElem?_range' (by omega)]
          congr 1; omega
        simp only [wIx]
        refine ⟨by decide +kernel, ?_⟩
        rw [e]
        have e2 : upC c = c - 32 := by unfold upC; rw [if_pos (by omega)]
        simpa [e2] using h
    · have hg' : ¬ c ∈ G_LETTERS.cps := by rw [← Array.mem_toList_iff]; exact fun z => hc (hg.mp z)
      have e2 : upC c = c := by unfold upC; rw [if_neg (by omega)]
      simpa [hg', e2] using h
theorem dt_Machine_is_locked : ∀ ds m R x, ph_Machine_is_locked A ds m R x → psi_Machine_is_locked A (startD 2 ds) m (endD R x) := by
  rintro ds m R x ⟨p, q, m0, s, rfl, ⟨ta, ma, ra, W⟩, h⟩
  simp [psi_Machine_is_locked, gf_end W.hp, gf_is_free W.hp, gf_high W.hp, wGt]
  unfold shutL at h
  by_cases h1 : 2 * s.c < q
  · simpa [h1] using h
  · cases h2 : s.free
    · simpa [h1, h2] using h
    · simpa [h1, h2] using h
theorem dt_Machine_go_on : ∀ ds m R x, ph_Machine_go_on A ds m R x → psi_Machine_go_on A (startD 2 ds) m (endD R x) := by
  rintro ds m R x ⟨p, q, m0, s, rfl, ⟨ta, ma, ra, W⟩, hl, h⟩
  have L : LIM = 16777216 := rfl
  simp [psi_Machine_go_on, gf_place W.hp, gf_high W.hp, wLt, wSub, wLe]
  unfold goL at h
  by_cases h1 : s.place < s.high - 10
  · by_cases h2 : s.high - 10 ≤ q
    · simp [h1, h2, gf_rings W.hp, gf_many W.hp, tyM, W.hr, wAppend]
      refine ⟨by omega, ?_⟩
      have W2 := W.rings (s.rings ++ [s.many])
      have e : s.rings.map D.int ++ [.int s.many] = (s.rings ++ [s.many]).map .int := by simp
      rw [e, sf_place W2.hp]
      exact h _ ⟨ta, ma, ra, by simpa [h1, h2] using W2.put (s' := { s with rings := s.rings ++ [s.many], place := q }) rfl rfl rfl⟩
    · simp [h1, h2, sf_place W.hp]
      exact h _ ⟨ta, ma, ra, by simpa [h1, h2] using W.put (s' := { s with place := q }) rfl rfl rfl⟩
  · simp [h1, sf_place W.hp]
    exact h _ ⟨ta, ma, ra, by simpa [h1] using W.put (s' := { s with place := q }) rfl rfl rfl⟩
theorem dt_Machine_stand : ∀ ds m R x, ph_Machine_stand A ds m R x → psi_Machine_stand A (startD 2 ds) m (endD R x) := by
  rintro ds m R x ⟨p, m0, s, rfl, ⟨ta, ma, ra, W⟩, h⟩
  simp [psi_Machine_stand, gf_place W.hp, gf_high W.hp, gf_row W.hp, gf_low W.hp, gf_tabs W.hp, gf_colour W.hp, gf_caps W.hp, gf_is_free W.hp, wTuple, asQ, asL, W.ht, wAdd]
  exact ⟨by decide, by decide, h⟩
theorem dt_Machine_strike : ∀ ds m R x, ph_Machine_strike A ds m R x → psi_Machine_strike A (startD 3 ds) m (endD R x) := by
  rintro ds m R x ⟨p, c, m0, s, rfl, ⟨ta, ma, ra, W⟩, hl, hl2, h⟩
  have L : LIM = 16777216 := rfl
  simp [psi_Machine_strike, gf_place W.hp, wAdd, ow_is_locked W.hp]
  refine ⟨p, _, m0, s, rfl, ⟨ta, ma, ra, W⟩, ?_⟩
  unfold inkL at h
  cases hs : shutL s (s.place + 2) with
  | true =>
    simp [hs] at h ⊢
    exact ⟨by decide, h _ ⟨ta, ma, ra, W⟩⟩
  | false =>
    simp only [hs, Bool.false_eq_true, if_false] at h ⊢
    simp [psi_Machine_strike_t1, gf_place W.hp, gf_row W.hp, gf_caps W.hp, gf_colour W.hp]
    refine ⟨c, s.caps, rfl, ?_⟩
    simp only [gf_colour W.hp]
    refine ⟨by decide, ?_⟩
    simp [psi_Machine_strike_t2, gf_marks W.hp, gf_many W.hp, tyM, W.hm, wAdd, wAppend]
    refine ⟨by decide, by decide, by omega, ?_⟩
    have W2 := W.marks (s.marks ++ [(⟨s.many, s.row, s.place, asL1 s c, s.red⟩ : Mk)])
    have e : s.marks.map mkD ++ [.tup [.int s.many, .int s.row, .int s.place, ch (if s.caps = true then upC c else c), colD s.red]] = (s.marks ++ [(⟨s.many, s.row, s.place, asL1 s c, s.red⟩ : Mk)]).map mkD := by simp [mkD, asL1]
    rw [e]
    generalize sup m ma (.lst ((s.marks ++ [(⟨s.many, s.row, s.place, asL1 s c, s.red⟩ : Mk)]).map mkD)) = m2 at W2 ⊢
    simp [psi_Machine_strike_t3, gf_dead W2.hp]
    refine in_dead hA (b := true) ?_
    by_cases hd : c ∈ s.dead
    · simp [hd, psi_Machine_strike_t4, wAdd]
      refine ⟨by decide, by decide, ?_⟩
      simpa [inkM, strikeD, wordD, asL1, hd] using h _ ⟨ta, ma, ra, by simpa [inkM, hd] using W2⟩
    · simp [hd, gf_place W2.hp, ow_go_on W2.hp, wAdd]
      refine ⟨p, _, m0, _, rfl, ⟨ta, ma, ra, W2⟩, by simpa using hl2, fun m' W3 => ?_⟩
      simp [psi_Machine_strike_t4, wAdd]
      refine ⟨by decide, by decide, ?_⟩
      simpa [inkM, strikeD, wordD, asL1, hd] using h m' (by simpa [inkM, hd] using W3)
end DL
end
section
set_option maxHeartbeats 0
namespace DL
open PySem
def likeB (s : LW) (c : Nat) (k : Mk) : Bool := decide (k.row = s.row) && decide (k.place = s.place) && decide (k.sign = asL1 s c)
def placesOf (p : Mk → Bool) : Nat → List Mk → List Nat
  | _, [] => []
  | n, k :: ks => if p k = true then n :: placesOf p (n + 1) ks else placesOf p (n + 1) ks
theorem places_last (p : Mk → Bool) : ∀ (n : Nat) (ks : List Mk), ks.Pairwise (fun a b => a.n < b.n) →
    match (placesOf p n ks).getLast? with
    | none => ks.filter p = []
    | some j => n ≤ j ∧ ∃ k, ks[j - n]? = some k ∧ (ks.filter p).getLast? = some k ∧ ks.eraseIdx (j - n) = ks.erase k
  | n, [], _ => by simp [placesOf]
  | n, k :: ks, h => by
    obtain ⟨h1, h2⟩ := List.pairwise_cons.mp h
    have ih := places_last p (n + 1) ks h2
    cases e : (placesOf p (n + 1) ks).getLast? with
    | none =>
      rw [e] at ih
      have e0 : placesOf p (n + 1) ks = [] := List.getLast?_eq_none_iff.mp e
      simp only [placesOf, e0]
      by_cases hp : p k = true
      · rw [if_pos hp]
        simp only [List.getLast?_singleton]
        exact ⟨Nat.le_refl _, k, by simp, by simp [hp, ih], by simp⟩
      · rw [if_neg hp]
        simp [hp]
        simpa using ih
    | some j =>
      rw [e] at ih
      obtain ⟨i1, z, i2, i3, i4⟩ := ih
      have el : (placesOf p n (k :: ks)).getLast? = some j := by
        simp only [placesOf]
        split
        · rw [List.getLast?_cons, e]; rfl
        · exact e
      rw [el]
      have ej : j - n = (j - (n + 1)) + 1 := by omega
      have hz : z ∈ ks := List.mem_of_getElem? i2
      have hne : k ≠ z := fun q => by have := h1 z hz; rw [q] at this; omega
      refine ⟨by omega, z, by rw [ej]; simpa using i2, ?_, ?_⟩
      · rw [List.filter_cons]
        split
        · rw [List.getLast?_cons, i3]; rfl
        · exact i3
      · rw [ej, List.eraseIdx_cons_succ, i4, List.erase_cons_tail (by simpa using hne)]
theorem enum_lc (like : D) (p : Mk → Bool) {G : Store → Prop} {r : Env} {m : Store} (hG : G m) (hlen : r.length = 7) (h2 : get r 2 = some like) (hw : ∀ k : Mk, k.sign < 128 → ∀ K : KD, K (.bl (p k)) m → wEq (.tup [.int k.row, .int k.place, ch k.sign]) like m K) : ∀ (ks : List Mk) (n : Nat) (acc : List D) (K : List D → Store → Prop), (∀ k ∈ ks, k.sign < 128) → acc.length + ks.length ≤ LIM →
    K (acc ++ (placesOf p n ks).map fun j => D.int (j : Nat)) m → wLcL G [5, 6] (gTp [5, 6]) (wTest (wOp wEq (wSl (wCut false) (wVar 6) (oSome (wC (.int 1))) (oSome (wC (.int 4)))) (wVar 2))) (wVar 5) r (enumD n (ks.map mkD)) acc m K := by
  obtain ⟨a0, a1, a2, a3, a4, a5, a6, rfl⟩ : ∃ a0 a1 a2 a3 a4 a5 a6, r = [a0, a1, a2, a3, a4, a5, a6] := by
    match r, hlen with
    | [a0, a1, a2, a3, a4, a5, a6], _ => exact ⟨_, _, _, _, _, _, _, rfl⟩
  simp only [getS, get0] at h2
  subst h2
  intro ks
  induction ks with
  | nil => intro n acc K hg hl q; exact ⟨hG, by simpa [placesOf] using q⟩
  | cons k ks ih =>
    intro n acc K hg hl q
    have hg' : ∀ k ∈ ks, k.sign < 128 := fun k hk => hg k (List.mem_cons_of_mem _ hk)
    simp only [List.length_cons] at hl
    refine ⟨hG, ?_⟩
    simp [mkD, wCut, cut13]
    refine hw k (hg k List.mem_cons_self) _ ?_
    cases hp : p k with
    | false =>
      simp
      exact ih (n + 1) acc K hg' (by omega) (by simpa [placesOf, hp] using q)
    | true =>
      simp
      exact ⟨by omega, ih (n + 1) (acc ++ [.int (n : Nat)]) K hg' (by simp; omega) (by simpa [placesOf, hp] using q)⟩
theorem erase_map {α β : Type} (f : α → β) : ∀ (l : List α) (j : Nat), (l.map f).eraseIdx j = (l.eraseIdx j).map f
  | [], j => by simp
  | a :: r, 0 => by simp
  | a :: r, j + 1 => by have ih := erase_map f r j; simp [ih]
theorem cut1 (k : Mk) : cutL [D.int k.n, .int k.row, .int k.place, ch k.sign, colD k.red] (some 1) none = [.int k.row, .int k.place, ch k.sign, colD k.red] := rfl
variable {A : Ad} (hA : AdOk A)
include hA
theorem dt_Machine_lift : ∀ ds m R x, ph_Machine_lift A ds m R x → psi_Machine_lift A (startD 7 ds) m (endD R x) := by
  rintro ds m R x ⟨p, c, m0, s, rfl, hc, ⟨ta, ma, ra, W⟩, hok, hsg, hl, hl2, h⟩
  have L : LIM = 16777216 := rfl
  simp [psi_Machine_lift, gf_place W.hp, wAdd, ow_is_locked W.hp]
  refine ⟨p, _, m0, s, rfl, ⟨ta, ma, ra, W⟩, ?_⟩
  unfold inkL at h
  cases hs : shutL s (s.place + 2) with
  | true =>
    simp [hs] at h ⊢
    exact ⟨by decide, h _ ⟨ta, ma, ra, W⟩⟩
  | false =>
    simp only [hs, Bool.false_eq_true, if_false] at h ⊢
    simp [psi_Machine_lift_t1, gf_place W.hp, gf_row W.hp, gf_caps W.hp]
    refine ⟨c, s.caps, rfl, ?_⟩
    refine ⟨by decide, ?_⟩
    have eas : (if s.caps = true then upC c else c) = asL1 s c := rfl
    rw [eas]
    simp [psi_Machine_lift_t2, iEnumL, gf_marks W.hp, asL, W.hm]
    have hlike : ∀ k : Mk, k.sign < 128 → ∀ K : KD, K (.bl (likeB s c k)) m → wEq (.tup [.int k.row, .int k.place, ch k.sign]) (.tup [.int s.row, .int s.place, ch (asL1 s c)]) m K := by
      intro k hk K hK
      refine ⟨?_, ?_, ?_⟩
      · simp [rv, dOk, dOks, okS]; omega
      · have := asL1_lt (s := s) hc
        simp [rv, dOk, dOks, okS]; omega
      · simp only [rv]
        rw [eq_likes]
        exact hK
    refine enum_lc (G := fun m' => m' ma = some (.lst (s.marks.map mkD))) (r := [some (.ref p), some (ch c), some (.tup [.int s.row, .int s.place, ch (asL1 s c)]), none, none, none, none]) (.tup [.int s.row, .int s.place, ch (asL1 s c)]) (likeB s c) W.hm rfl rfl hlike s.marks 0 [] _ hsg (by simp; omega) ?_
    simp only [List.nil_append]
    -- the tail: go on, and tell
    have tl : ∀ (m1 : Store) (mk : List Mk) (d : D) (v2 v3 : Option D), MaAt A m0 p m1 { s with marks := mk } ta ma ra → inkM s false c = (mk, d) → psi_Machine_lift_t5 A [some (.ref p), some (ch c), v2, v3, some d, none, none] m1 (endD R x) := by
      intro m1 mk d v2 v3 W1 e
      rw [e] at h
      simp [psi_Machine_lift_t5, gf_dead W1.hp]
      refine in_dead hA (b := true) ?_
      by_cases hd : c ∈ s.dead
      · simp [hd] at h ⊢
        simp [psi_Machine_lift_t6]
        exact h _ ⟨ta, ma, ra, W1⟩
      · simp [hd, gf_place W1.hp, ow_go_on W1.hp, wAdd] at h ⊢
        refine ⟨p, _, m0, _, rfl, ⟨ta, ma, ra, W1⟩, by simpa using hl2, fun m' hW => ?_⟩
        simp [psi_Machine_lift_t6]
        exact h _ hW
    have pl := places_last (likeB s c) 0 s.marks hok.mn
    have hlk : s.marks.filter (likeB s c) = likes s c := rfl
    rw [hlk] at pl
    simp [psi_Machine_lift_t3, wAdd, wCut]
    refine ⟨by decide, by show 3 ≤ LIM; decide, ?_⟩
    have en : cutL [D.int s.row, .int s.place, ch (asL1 s c)] none (some 2) = [.int s.row, .int s.place] := rfl
    rw [en]
    have okn : ∀ (js : List Nat) (n : Nat), dOk (.lst (js.map fun j => D.int (j : Nat))) (n + 1) = true := by
      intro js n
      rw [dOk]
      induction js with
      | nil => rfl
      | cons j js ih => rw [List.map_cons, dOks, ih]; rfl
    cases hq : (placesOf (likeB s c) 0 s.marks).getLast? with
    | none =>
      rw [hq] at pl
      have e0 := List.getLast?_eq_none_iff.mp hq
      rw [e0]
      simp [psi_Machine_lift_t4, wNe, wEq, rv, dOk, dOks, eqD, eqDs]
      exact tl m s.marks (nothD s.row s.place) _ _ W (by simp only [inkM]; rw [pl]; rfl)
    | some j =>
      rw [hq] at pl
      obtain ⟨_, k, h1, h2, h3⟩ := pl
      have hj : j < s.marks.length := by
        rcases Nat.lt_or_ge j s.marks.length with z | z
        · exact z
        · rw [Nat.sub_zero, List.getElem?_eq_none z] at h1; cases h1
      simp only [Nat.sub_zero] at h1 h3
      obtain ⟨js, ejs⟩ : ∃ js, placesOf (likeB s c) 0 s.marks = js ++ [j] := by
        obtain ⟨js, e⟩ := List.getLast?_eq_some_iff.mp hq
        exact ⟨js, e⟩
      rw [ejs]
      simp only [psi_Machine_lift_t4, s_seq, s_if, e_test, e_op, e_var, getS, get0, ok_some, e_lst, e_nil, e_nwF]
      refine ⟨by decide, okn _ 59, rfl, ?_⟩
      have ne : eqD (rv m (.lst ((js ++ [j]).map fun j => D.int (j : Nat)))) (rv m (.lst [])) = false := by
        simp only [rv]
        cases js <;> simp [eqD, eqDs]
      rw [ne]
      simp only [Bool.not_false, if_true, s_set, e_op, e_tup, e_cons, e_nil, e_c, e_sl, e_mt, e_fld, e_var, getS, get0, ok_some, gf_marks W.hp, e_oSome, e_oNone, e_un]
      refine ⟨by decide, by simp [tyM, W.hm], ?_⟩
      simp only [wNeg, wIx, asQ, asL, ok_some]
      have ea : atL ((js ++ [j]).map fun j => D.int (j : Nat)) (-1) = some (.int (j : Nat)) := by
        have : atL (js ++ [j]) (-1 : Int) = some j := by
          unfold atL ixL
          rw [if_neg (by decide), if_pos (by simp; omega)]
          simp
          have : ((-1 : Int) + ((js.length : Int) + 1)).toNat = js.length := by omega
          rw [this]; simp
        unfold atL at this ⊢
        rw [List.length_map]
        cases e : ixL (js ++ [j]).length (-1) with
        | none => rw [e] at this; cases this
        | some i =>
          rw [e] at this
          simp only [Option.bind] at this ⊢
          rw [List.getElem?_map, this]; rfl
      rw [ea]
      simp only [ok_some, wPopAt]
      refine ⟨s.marks.map mkD, W.hm, by omega, by omega, ?_⟩
      have e1 : (s.marks.map mkD)[((j : Nat) : Int).toNat]? = some (mkD k) := by
        rw [Int.toNat_natCast, List.getElem?_map, h1]; rfl
      rw [e1]
      simp only [ok_some, mkD, wCut, cut1, wAdd, Int.toNat_natCast]
      refine ⟨by show 5 ≤ LIM; decide, ?_⟩
      have e2 : (s.marks.map mkD).eraseIdx j = (s.marks.erase k).map mkD := by rw [erase_map, h3]
      rw [e2]
      simp only [s_next, putS, put0]
      exact tl _ (s.marks.erase k) (strikeD "lifted" k) _ _ (W.marks (s.marks.erase k)) (by simp only [inkM]; rw [h2]; rfl)
end DL
end
section
set_option maxHeartbeats 0
namespace DL
open PySem
theorem lkB1 (d : D) : (lookK (mergeD [] [(key "return", d), (key "up", .int (-1))]) (key "return")).getD (.int 1) = d := by simp [mergeD, putKD, lookK, key]
theorem lkB2 (d : D) : (lookK (mergeD [] [(key "return", d), (key "up", .int (-1))]) (key "up")).getD (.int 1) = .int (-1) := by simp [mergeD, putKD, lookK, key]
theorem lkB3 (d : D) : (lookK (mergeD [] [(key "return", d), (key "up", .int (-1))]) (key "down")).getD (.int 1) = .int 1 := by simp [mergeD, putKD, lookK, key]
theorem lkC1 : (lookK (mergeD [] [(key "blank", .int 2), (key "half", .int 1)]) (key "blank")).getD (.int 0) = .int 2 := by simp [mergeD, putKD, lookK, key]
theorem lkC2 : (lookK (mergeD [] [(key "blank", .int 2), (key "half", .int 1)]) (key "half")).getD (.int 0) = .int 1 := by simp [mergeD, putKD, lookK, key]
theorem lkC3 : (lookK (mergeD [] [(key "blank", .int 2), (key "half", .int 1)]) (key "tab")).getD (.int 0) = .int 0 := by simp [mergeD, putKD, lookK, key]
theorem key_w (n : String) : keyD (.str (PySem.Str.ofString n)) = some (key n) := rfl
theorem first_tab {s : LW} (h : s.ok) : onL s (((tabsS s.tabs).filter (fun t => decide (s.place < t)) ++ [2 * s.c + 1]).headD 0) = onL s (tabL s) := by
  have hc := h.c1
  have shut : ∀ q, 2 * s.c < q → onL s q = (s, lockD) := fun q hq => by
    unfold onL
    rw [if_pos (by simp [shutL]; exact .inl hq)]
  cases e : (tabsS s.tabs).filter (fun t => decide (s.place < t)) with
  | nil =>
    have no : s.tabs.filter (fun t => decide (s.place < t)) = [] := by
      rw [List.filter_eq_nil_iff] at e ⊢
      intro t ht; exact e t ((tabsS_mem _ t).mpr ht)
    have : tabL s = 999 := by unfold tabL; rw [no]; rfl
    rw [this]
    show onL s (2 * s.c + 1) = _
    rw [shut _ (by omega), shut _ (by omega)]
  | cons t ts =>
    have hm : t ∈ (tabsS s.tabs).filter (fun t => decide (s.place < t)) := by rw [e]; exact List.mem_cons_self
    have hp := (tabsS_lt h.td).filter (fun t => decide (s.place < t))
    rw [e] at hp
    have h1 := (List.pairwise_cons.mp hp).1
    simp at hm
    have ht : t ∈ s.tabs := (tabsS_mem _ t).mp hm.1
    have hb := (h.tb t ht).2
    have : tabL s = t := by
      rcases tab_min s with z | ⟨z1, z2⟩
      · exfalso
        have hmin : ∀ v ∈ (s.tabs.filter fun t => decide (s.place < t)) ++ [999], tabL s ≤ v := by
          intro v hv
          unfold tabL
          cases q : ((s.tabs.filter fun t => decide (s.place < t)) ++ [999]).min? with
          | none => simp at q
          | some u => exact (List.min?_eq_some_iff.mp q).2 v hv
        have := hmin t (List.mem_append_left _ (by simp; exact ⟨ht, hm.2⟩))
        omega
      · have hmin : tabL s ≤ t := by
          unfold tabL
          cases q : ((s.tabs.filter fun t => decide (s.place < t)) ++ [999]).min? with
          | none => simp at q
          | some u => exact (List.min?_eq_some_iff.mp q).2 t (List.mem_append_left _ (by simp; exact ⟨ht, hm.2⟩))
        have hin : tabL s ∈ (tabsS s.tabs).filter (fun t => decide (s.place < t)) := by simp; exact ⟨(tabsS_mem _ _).mpr z1, z2⟩
        rw [e] at hin
        rcases List.mem_cons.mp hin with z | z
        · exact z
        · have := h1 _ z; omega
    rw [this]; rfl
variable {A : Ad} (hA : AdOk A)
include hA
theorem dt_Machine_roll : ∀ ds m R x, ph_Machine_roll A ds m R x → psi_Machine_roll A (startD 3 ds) m (endD R x) := by
  rintro ds m R x ⟨p, k, m0, s, rfl, hk, ⟨ta, ma, ra, W⟩, h⟩
  have tl : ∀ (w : String) (r : Int), (rowL s r (decide (w = "return"))) = stepL1 s k → psi_Machine_roll_t1 A [some (.ref p), some (.str (PySem.Str.ofString w)), some (.int r)] m (endD R x) := by
    intro w r e
    rw [← e] at h
    unfold rowL at h
    simp [psi_Machine_roll_t1, wLe]
    by_cases h0 : 0 ≤ r
    · by_cases h1 : r ≤ 60
      · have h2 : ¬ (r < 0 ∨ 60 < r) := by omega
        simp [h0, h1, psi_Machine_roll_t2, sf_row W.hp]
        have W2 := W.put (s' := { s with row := r }) rfl rfl rfl
        generalize sup m p (.ins A.cMachine (maD { s with row := r } ta ma ra)) = m2 at W2 ⊢
        simp [psi_Machine_roll_t3, wEq]
        by_cases hw : w = "return"
        · simp [hw, gf_low W2.hp, sf_place W2.hp]
          have W3 := W2.put (s' := { s with row := r, place := s.low }) rfl rfl rfl
          generalize sup m2 p (.ins A.cMachine (maD { s with row := r, place := s.low } ta ma ra)) = m3 at W3 ⊢
          simp [sf_is_free W3.hp]
          have W4 := W3.put (s' := { s with row := r, place := s.low, free := false }) rfl rfl rfl
          generalize sup m3 p (.ins A.cMachine (maD { s with row := r, place := s.low, free := false } ta ma ra)) = m4 at W4 ⊢
          simp [psi_Machine_roll_t4, gf_place W4.hp]
          refine ⟨by decide, ?_⟩
          have := h m4 ⟨ta, ma, ra, by simpa [h2, hw] using W4⟩
          simpa [h2, hw, movedD, wordD] using this
        · simp [hw, psi_Machine_roll_t4, gf_place W2.hp]
          refine ⟨by decide, ?_⟩
          have := h m2 ⟨ta, ma, ra, by simpa [h2, hw] using W2⟩
          simpa [h2, hw, movedD, wordD] using this
      · have h2 : r < 0 ∨ 60 < r := by omega
        simp [h0, h1]
        refine ⟨by decide, ?_⟩
        have := h m ⟨ta, ma, ra, by simpa [h2] using W⟩
        simpa [h2, lockD, wordD] using this
    · have h2 : r < 0 ∨ 60 < r := by omega
      simp [h0]
      refine ⟨by decide, ?_⟩
      have := h m ⟨ta, ma, ra, by simpa [h2] using W⟩
      simpa [h2, lockD, wordD] using this
  cases k <;> simp [isRoll] at hk
  · simp [psi_Machine_roll, gf_row W.hp, gf_down W.hp, wordD, kyW, keysD, key_w, wNeg, lkB1, wAdd]
    exact tl "return" _ (by simp [stepL1])
  · simp [psi_Machine_roll, gf_row W.hp, gf_down W.hp, wordD, kyW, keysD, key_w, wNeg, lkB2, wAdd]
    exact tl "up" _ (by simp [stepL1]; rfl)
  · simp [psi_Machine_roll, gf_row W.hp, gf_down W.hp, wordD, kyW, keysD, key_w, wNeg, lkB3, wAdd]
    exact tl "down" _ (by simp [stepL1])
theorem dt_Machine_move : ∀ ds m R x, ph_Machine_move A ds m R x → psi_Machine_move A (startD 4 ds) m (endD R x) := by
  rintro ds m R x ⟨p, k, m0, s, rfl, hk, ⟨ta, ma, ra, W⟩, hok, hl2, h⟩
  have L : LIM = 16777216 := rfl
  have htl := hok.tl
  have tl : ∀ (w : D) (q : Int) (v3 : Option D), onL s q = stepL1 s k → psi_Machine_move_t3 A [some (.ref p), some w, some (.int q), v3] m (endD R x) := by
    intro w q v3 e
    rw [← e] at h
    unfold onL at h
    simp [psi_Machine_move_t3, ow_is_locked W.hp]
    refine ⟨p, q, m0, s, rfl, ⟨ta, ma, ra, W⟩, ?_⟩
    cases hs : shutL s q with
    | true =>
      simp [hs] at h ⊢
      exact ⟨by decide, h m ⟨ta, ma, ra, W⟩⟩
    | false =>
      simp only [hs, Bool.false_eq_true, if_false] at h ⊢
      simp [psi_Machine_move_t4, ow_go_on W.hp]
      refine ⟨p, q, m0, s, rfl, ⟨ta, ma, ra, W⟩, hl2, fun m' ⟨ta', ma', ra', W'⟩ => ?_⟩
      simp [psi_Machine_move_t5, gf_row W'.hp]
      exact ⟨by decide, h m' ⟨ta', ma', ra', W'⟩⟩
  cases k <;> simp [isMove] at hk
  · simp [psi_Machine_move, wordD, kyW, wEq, psi_Machine_move_t1, gf_place W.hp, keysD, key_w, lkC1, wAdd, psi_Machine_move_t2]
    exact tl _ _ _ rfl
  · simp [psi_Machine_move, wordD, kyW, wEq, psi_Machine_move_t1, gf_place W.hp, keysD, key_w, lkC2, wAdd, psi_Machine_move_t2]
    exact tl _ _ _ rfl
  · simp only [stepL1] at h
    simp [psi_Machine_move, wordD, kyW, wEq, gf_place W.hp, wSub, wLt]
    have fin : s.place - 2 < 0 ∨ (s.free = false ∧ s.low ≤ s.place ∧ s.place - 2 < s.low) → 1 ≤ LIM ∧ R (.tup [.str (PySem.Str.ofString "locked")]) m := by
      intro z
      have z' : s.place < 2 ∨ (s.free = false ∧ s.low ≤ s.place ∧ s.place - 2 < s.low) := z.imp (fun q => by omega) id
      rw [if_pos z'] at h
      exact ⟨by decide, h m ⟨ta, ma, ra, W⟩⟩
    have nofin : ¬ (s.place - 2 < 0 ∨ (s.free = false ∧ s.low ≤ s.place ∧ s.place - 2 < s.low)) → fldS A.cMachine m p (PySem.Str.ofString "place") (.int (s.place - 2)) fun m3 => fldP A.cMachine m3 p (PySem.Str.ofString "row") fun u m1 => 3 ≤ LIM ∧ R (.tup [.str (PySem.Str.ofString "moved"), u, .int (s.place - 2)]) m1 := by
      intro z
      have z' : ¬ (s.place < 2 ∨ (s.free = false ∧ s.low ≤ s.place ∧ s.place - 2 < s.low)) := fun y => z (y.imp (fun q => by omega) id)
      rw [if_neg z'] at h
      rw [sf_place W.hp]
      have W2 := W.put (s' := { s with place := s.place - 2 }) rfl rfl rfl
      rw [gf_row W2.hp]
      exact ⟨by decide, h _ ⟨ta, ma, ra, W2⟩⟩
    by_cases h1 : s.place - 2 < 0
    · simp [h1]; exact fin (.inl h1)
    · simp [h1, gf_is_free W.hp]
      cases hf : s.free with
      | true => simp; exact nofin (by rw [hf]; simp; omega)
      | false =>
        simp [gf_low W.hp, gf_place W.hp, wLe]
        by_cases h2 : s.place - 2 < s.low
        · by_cases h3 : s.low ≤ s.place
          · simp [h2, h3]; exact fin (.inr ⟨hf, h3, h2⟩)
          · simp [h2, h3]; exact nofin (by omega)
        · simp [h2]; exact nofin (by omega)
  · simp [psi_Machine_move, wordD, kyW, wEq, psi_Machine_move_t1, gf_place W.hp, keysD, key_w, lkC3, wAdd, psi_Machine_move_t2, gf_tabs W.hp, asI, W.ht]
    refine lc_filter (G := fun m' => m' ta = some (.lst ((tabsS s.tabs).map .int))) D.int (fun t => decide (s.place < t)) W.ht (by simp) (tabsS s.tabs) [] _ (by rw [(tabsS_perm s.tabs).length_eq]; simp; omega) (fun t ht K2 hK2 => ?_) ?_
    · simp [gf_place W.hp, wGt]; exact hK2
    · simp [gf_end W.hp, wAdd]
      refine ⟨by decide, _, rfl, _, rfl, ?_, ?_⟩
      · have := List.length_filter_le (fun t => decide (s.place < t)) (tabsS s.tabs)
        rw [(tabsS_perm s.tabs).length_eq] at this
        simp; omega
      · simp [wIx, asQ, asL]
        have e : ∀ ts : List Int, atL (ts.map D.int ++ [.int (2 * s.c + 1)]) 0 = some (.int ((ts ++ [2 * s.c + 1]).headD 0)) := by
          intro ts
          have := atL_nat (ts.map D.int ++ [.int (2 * s.c + 1)]) 0
          simp only [Int.natCast_zero] at this
          refine this.trans ?_
          cases ts <;> rfl
        rw [e]
        exact tl _ _ _ (first_tab hok)
end DL
end
section
set_option maxHeartbeats 0
namespace DL
open PySem
theorem ns_in' (p : Int) (ts : List Int) : inD (.int p) (ts.map .int) = decide (p ∈ ts) := by
  simp only [inD, List.any_map]
  rw [Bool.eq_iff_iff]
  simp [eqD, Function.comp]
theorem erase_at {ts : List Int} {v : Int} (h : v ∈ ts) : ∃ j : Nat, ts[j]? = some v ∧ (∀ i : Nat, i < j → ts[i]? ≠ some v) ∧ ts.eraseIdx j = ts.erase v := by
  induction ts with
  | nil => simp at h
  | cons a ts ih =>
    by_cases e : a = v
    · subst e; exact ⟨0, rfl, fun i hi => by omega, by simp⟩
    · have hv : v ∈ ts := by rcases List.mem_cons.mp h with z | z; exact absurd z.symm e; exact z
      obtain ⟨j, h1, h2, h3⟩ := ih hv
      refine ⟨j + 1, by simpa using h1, fun i hi => ?_, ?_⟩
      · cases i with
        | zero => simp; exact e
        | succ i => simpa using h2 i (by omega)
      · rw [List.eraseIdx_cons_succ, h3, List.erase_cons_tail (by simpa using e)]
variable {A : Ad} (hA : AdOk A)
include hA
theorem dt_Machine_set_up : ∀ ds m R x, ph_Machine_set_up A ds m R x → psi_Machine_set_up A (startD 2 ds) m (endD R x) := by
  rintro ds m R x ⟨p, k, m0, s, rfl, hk, ⟨ta, ma, ra, W⟩, hok, h⟩
  have L : LIM = 16777216 := rfl
  have htl := hok.tl
  have hts : (tabsS s.tabs).length = s.tabs.length := (tabsS_perm s.tabs).length_eq
  have done : ∀ m', Ma A m0 p m' (turnL s k).1 → (turnL s k).2 = doneD → psi_Machine_set_up_t1 A [some (.ref p), some (wordD (kyW k))] m' (endD R x) := by
    intro m' W' e
    have := h m' W'
    rw [e] at this
    simp [psi_Machine_set_up_t1]
    exact ⟨by decide, this⟩
  have lock : turnL s k = (s, lockD) → 1 ≤ LIM ∧ R (.tup [.str (PySem.Str.ofString "locked")]) m := fun e => by
    rw [e] at h
    exact ⟨by decide, h m ⟨ta, ma, ra, W⟩⟩
  cases k <;> simp [isTurn] at hk
  · simp [psi_Machine_set_up, wordD, kyW, wEq, gf_place W.hp, gf_high W.hp, wLt]
    by_cases h1 : s.place < s.high
    · simp [h1, sf_low W.hp]
      exact done _ ⟨ta, ma, ra, by simpa [turnL, h1] using W.put (s' := { s with low := s.place }) rfl rfl rfl⟩ (by simp [turnL, h1])
    · simp [h1]; exact lock (by simp [turnL, h1])
  · simp [psi_Machine_set_up, wordD, kyW, wEq, gf_place W.hp, gf_low W.hp, wGt]
    by_cases h1 : s.low < s.place
    · simp [h1, sf_high W.hp]
      exact done _ ⟨ta, ma, ra, by simpa [turnL, h1] using W.put (s' := { s with high := s.place }) rfl rfl rfl⟩ (by simp [turnL, h1])
    · simp [h1]; exact lock (by simp [turnL, h1])
  · simp [psi_Machine_set_up, wordD, kyW, wEq, gf_tabs W.hp, gf_place W.hp]
    refine ⟨by decide, ?_⟩
    simp only [wAdd]
    refine ⟨(tabsS s.tabs).map .int, [.int s.place], by simp [asL, W.ht], rfl, by simp; omega, ?_⟩
    refine ⟨tabsS s.tabs ++ [s.place], by simp [asL], by simp; omega, fun ns' h1 h2 => ?_⟩
    intro a na
    have e : ns' = tabsS (s.tabs.filter (fun t => decide (t ≠ s.place)) ++ [s.place]) := tabsS_is (nd_filter hok.td _) h1 fun k => by
      rw [h2]
      simp [tabsS_mem]
      by_cases q : k = s.place <;> simp [q]
    subst e
    have e2 : fldS A.cMachine (sup m a (.lst ((tabsS (s.tabs.filter (fun t => decide (t ≠ s.place)) ++ [s.place])).map .int))) p (PySem.Str.ofString "tabs") (.ref a) = fun K => K (sup (sup m a (.lst ((tabsS (s.tabs.filter (fun t => decide (t ≠ s.place)) ++ [s.place])).map .int))) p (.ins A.cMachine (maD { s with tabs := s.tabs.filter (fun t => decide (t ≠ s.place)) ++ [s.place] } a ma ra))) := by
      funext K
      have hp2 : (sup m a (.lst ((tabsS (s.tabs.filter (fun t => decide (t ≠ s.place)) ++ [s.place])).map .int))) p = some (.ins A.cMachine (maD s ta ma ra)) := by
        rw [sup_ne (fun e => by rw [← e, W.hp] at na; cases na)]; exact W.hp
      exact sf_tabs hp2 a _ K
    rw [e2]
    exact done _ ⟨a, ma, ra, W.newtabs na _⟩ rfl
  · simp [psi_Machine_set_up, wordD, kyW, wEq, gf_tabs W.hp, gf_place W.hp, wIn, wInB]
    refine ⟨(tabsS s.tabs).map .int, by simp [asL, W.ht], .inl ⟨rfl, by simp [flatD]⟩, ?_⟩
    rw [ns_in']
    by_cases h1 : s.place ∈ s.tabs
    · have h1' : s.place ∈ tabsS s.tabs := (tabsS_mem _ _).mpr h1
      simp [h1', tyM, W.ht, wRemI]
      obtain ⟨j, j1, j2, j3⟩ := erase_at h1'
      refine ⟨tabsS s.tabs, rfl, j, j1, j2, ?_⟩
      rw [j3]
      have e : (tabsS s.tabs).erase s.place = tabsS (s.tabs.filter (fun t => decide (t ≠ s.place))) := tabsS_is (hok.td.filter _) ((tabsS_lt hok.td).sublist List.erase_sublist) fun k => by
        rw [(nd_of_lt (tabsS_lt hok.td)).mem_erase_iff, tabsS_mem]
        simp [and_comm]
      rw [e]
      exact done _ ⟨ta, ma, ra, by simpa [turnL, h1] using W.oldtabs (s.tabs.filter (fun t => decide (t ≠ s.place)))⟩ (by simp [turnL, h1])
    · have h1' : s.place ∉ tabsS s.tabs := fun z => h1 ((tabsS_mem _ _).mp z)
      simp [h1']; exact lock (by simp [turnL, h1])
  · simp [psi_Machine_set_up, wordD, kyW, wEq]
    intro a na
    have hp2 : (sup m a (.lst [])) p = some (.ins A.cMachine (maD s ta ma ra)) := by
      rw [sup_ne (fun e => by rw [← e, W.hp] at na; cases na)]; exact W.hp
    rw [sf_tabs hp2 a []]
    have e0 : tabsS [] = [] := by simp [tabsS]
    have W2 := W.newtabs na []
    rw [e0] at W2
    exact done _ ⟨a, ma, ra, W2⟩ rfl
  · simp [psi_Machine_set_up, wordD, kyW, wEq, sf_is_free W.hp]
    exact done _ ⟨ta, ma, ra, W.put (s' := { s with free := true }) rfl rfl rfl⟩ rfl
  · have e3 : ∀ b, colD b = if b = true then wordD "red" else wordD "black" := fun _ => rfl
    simp only [psi_Machine_set_up, wordD, kyW, s_seq, s_if, e_and, e_test, e_op, e_var, getS, get0, ok_some, e_c, wEq, so_inj, start0, List.map_cons, List.map_nil, List.length_cons, List.length_nil, List.cons_append, List.nil_append]
    simp [gf_colour W.hp]
    have cb : ∀ (K : Bool → Store → Prop), K (!s.red) m → wEq (colD s.red) (.str (PySem.Str.ofString "black")) m fun u m1 => match u with | .bl b => K b m1 | _ => False := by
      intro K hK
      cases e : s.red <;> rw [e] at hK <;> simpa [colD, wEq, wordD] using hK
    refine cb _ ?_
    cases e : s.red with
    | true =>
      simp
      have := sf_colour W.hp false
      simp only [colD, Bool.false_eq_true, if_false, wordD] at this
      rw [this]
      exact done _ ⟨ta, ma, ra, by simpa [turnL, e] using W.put (s' := { s with red := false }) rfl rfl rfl⟩ rfl
    | false =>
      simp
      have := sf_colour W.hp true
      simp only [colD, if_true, wordD] at this
      rw [this]
      exact done _ ⟨ta, ma, ra, by simpa [turnL, e] using W.put (s' := { s with red := true }) rfl rfl rfl⟩ rfl
  · simp [psi_Machine_set_up, wordD, kyW, wEq, gf_caps W.hp, sf_caps W.hp]
    exact done _ ⟨ta, ma, ra, W.put (s' := { s with caps := !s.caps }) rfl rfl rfl⟩ rfl
end DL
end
section
set_option maxHeartbeats 0
namespace DL
open PySem
variable {A : Ad} (hA : AdOk A)
include hA
theorem dt_Machine___init__ : ∀ ds m R x, ph_Machine___init__ A ds m R x → psi_Machine___init__ A (startD 3 ds) m (endD R x) := by
  rintro ds m R x ⟨p, c, dead, dn, m0, rfl, hM, n0, rfl, h⟩
  have fs : ∀ (m1 : Store) (fs : List (Str × D)) (n : Str) (y : D) (K : Store → Prop), m1 p = some (.ins A.cMachine fs) → fs.length < 1000 → K (sup m1 p (.ins A.cMachine (putD n y fs))) → fldS A.cMachine m1 p n y K := fun m1 fs n y K e l k => ⟨fs, e, l, k⟩
  simp only [psi_Machine___init__, start0, List.map_cons, List.map_nil, List.length_cons, List.length_nil, List.cons_append, List.nil_append, s_seq, s_fldS, e_op, e_var, getS, get0, ok_some, e_c, mach1]
  refine fs _ [] _ _ _ sup_same (by simp [putD]) ?_
  rw [sup_sup]
  simp only [psi_Machine___init___t1, s_seq, s_fldS, e_op, e_var, getS, get0, ok_some, e_c, mach2]
  refine fs _ _ _ _ _ sup_same (by simp [putD]) ?_
  rw [sup_sup]
  simp only [psi_Machine___init___t2, s_seq, s_fldS, e_call, e_cons, e_nil, e_var, getS, get0, ok_some]
  refine ⟨rfl, c, dead, dn, rfl, hM, ?_⟩
  refine fs _ _ _ _ _ sup_same (by simp [putD]) ?_
  rw [sup_sup]
  simp only [psi_Machine___init___t3, s_seq, s_fldS, e_var, getS, get0, ok_some, e_c]
  refine fs _ _ _ _ _ sup_same (by simp [putD]) ?_
  rw [sup_sup]
  simp only [psi_Machine___init___t4, s_seq, s_fldS, e_var, getS, get0, ok_some, e_c]
  refine fs _ _ _ _ _ sup_same (by simp [putD]) ?_
  rw [sup_sup]
  simp only [psi_Machine___init___t5, s_seq, s_fldS, e_var, getS, get0, ok_some, e_c]
  refine fs _ _ _ _ _ sup_same (by simp [putD]) ?_
  rw [sup_sup]
  simp only [psi_Machine___init___t6, s_seq, s_fldS, e_fld, e_var, getS, get0, ok_some, e_c]
  refine ⟨_, .int (2 * c), sup_same, by simp [putD, lookD], ?_⟩
  refine fs _ _ _ _ _ sup_same (by simp [putD]) ?_
  rw [sup_sup]
  simp only [psi_Machine___init___t7, s_seq, s_fldS, e_callB, e_cons, e_nil, e_var, getS, get0, ok_some, wList, asQ]
  intro ta nt
  have ntp : ta ≠ p := fun e => by rw [e, sup_same] at nt; cases nt
  refine fs _ _ _ _ _ (by rw [sup_ne ntp.symm]; exact sup_same) (by simp [putD]) ?_
  simp only [psi_Machine___init___t8, s_seq, s_fldS, e_var, getS, get0, ok_some, e_c]
  refine fs _ _ _ _ _ sup_same (by simp [putD]) ?_
  rw [sup_sup]
  simp only [psi_Machine___init___t9, s_seq, s_fldS, e_var, getS, get0, ok_some, e_c]
  refine fs _ _ _ _ _ sup_same (by simp [putD]) ?_
  rw [sup_sup]
  simp only [psi_Machine___init___t10, s_seq, s_fldS, e_var, getS, get0, ok_some, e_c]
  refine fs _ _ _ _ _ sup_same (by simp [putD]) ?_
  rw [sup_sup]
  simp only [psi_Machine___init___t11, s_seq, s_fldS, e_lst, e_nil, e_var, getS, get0, ok_some]
  refine ⟨by decide, fun ma nm => ?_⟩
  have nmp : ma ≠ p := fun e => by rw [e, sup_same] at nm; cases nm
  have nmt : ma ≠ ta := fun e => by rw [e, sup_ne ntp, sup_same] at nm; cases nm
  refine fs _ _ _ _ _ (by rw [sup_ne nmp.symm]; exact sup_same) (by simp [putD]) ?_
  simp only [psi_Machine___init___t12, s_seq, s_fldS, e_lst, e_nil, e_var, getS, get0, ok_some]
  refine ⟨by decide, fun ra nr => ?_⟩
  have nrp : ra ≠ p := fun e => by rw [e, sup_same] at nr; cases nr
  have nrm : ra ≠ ma := fun e => by rw [e, sup_ne nmp, sup_same] at nr; cases nr
  have nrt : ra ≠ ta := fun e => by rw [e, sup_ne ntp, sup_ne nmt.symm, sup_ne ntp, sup_same] at nr; cases nr
  refine fs _ _ _ _ _ (by rw [sup_ne nrp.symm]; exact sup_same) (by simp [putD]) ?_
  simp only [psi_Machine___init___t13, s_fldS, e_c, e_var, getS, get0, ok_some]
  refine fs _ _ _ _ _ sup_same (by simp [putD]) ?_
  rw [sup_sup]
  simp only [end_nx]
  have n0t : m0 ta = none := by rw [sup_ne ntp] at nt; exact nt
  have n0m : m0 ma = none := by rw [sup_ne nmp, sup_ne nmt, sup_ne nmp] at nm; exact nm
  have n0r : m0 ra = none := by rw [sup_ne nrp, sup_ne nrm, sup_ne nrp, sup_ne nrt, sup_ne nrp] at nr; exact nr
  have S : ∀ {m1 : Store} {a : Addr} {o : MO}, Sub m0 m1 → m0 a = none → Sub m0 (sup m1 a o) := fun h n => sub_sup h n
  have fin : ∀ fs, fs = maD (newL c dead dn []) ta ma ra → R .non (sup (sup (sup (sup (sup (sup (sup m0 p (.ins A.cMachine (putD "high" (.int (2 * c)) (putD "low" (.int 0) (putD "place" (.int 0) (putD "row" (.int 0) (putD "end" (.int (2 * c)) (putD "down" (.int dn) (putD "dead" (.tup (dead.map ch)) [])))))))) ) ta (.lst [])) p (.ins A.cMachine (putD "is_free" (.bl false) (putD "caps" (.bl false) (putD "colour" (.str (PySem.Str.ofString "black")) (putD "tabs" (.ref ta) (putD "high" (.int (2 * c)) (putD "low" (.int 0) (putD "place" (.int 0) (putD "row" (.int 0) (putD "end" (.int (2 * c)) (putD "down" (.int dn) (putD "dead" (.tup (dead.map ch)) [])))))))))))) ) ma (.lst [])) p (.ins A.cMachine (putD "marks" (.ref ma) (putD "is_free" (.bl false) (putD "caps" (.bl false) (putD "colour" (.str (PySem.Str.ofString "black")) (putD "tabs" (.ref ta) (putD "high" (.int (2 * c)) (putD "low" (.int 0) (putD "place" (.int 0) (putD "row" (.int 0) (putD "end" (.int (2 * c)) (putD "down" (.int dn) (putD "dead" (.tup (dead.map ch)) [])))))))))))))) ra (.lst [])) p (.ins A.cMachine fs)) := by
    rintro fs rfl
    refine h _ ⟨ta, ma, ra, S (S (S (S (S (S (S (Sub.refl m0) n0) n0t) n0) n0m) n0) n0r) n0, n0, n0t, n0m, n0r, sup_same, ?_, ?_, ?_, nmt.symm, nrt.symm, nrm.symm⟩
    · rw [sup_ne ntp, sup_ne nrt.symm, sup_ne ntp, sup_ne nmt.symm, sup_ne ntp, sup_same]; simp [newL, tabsS]
    · rw [sup_ne nmp, sup_ne nrm.symm, sup_ne nmp, sup_same]; rfl
    · rw [sup_ne nrp, sup_same]; rfl
  exact fin _ (by simp [putD, maD, newL, colD, wordD])
theorem dt_Machine_press : ∀ ds m R x, ph_Machine_press A ds m R x → psi_Machine_press A (startD 3 ds) m (endD R x) := by
  rintro ds m R x ⟨p, k, m0, s, n, rfl, hk, ⟨ta, ma, ra, W⟩, hok, hsm, hn, h⟩
  have hr := hsm.r
  have hm := hsm.m
  have L : LIM = 16777216 := rfl
  have wl : (2 : Nat) ≤ LIM := by decide
  have tl : ∀ m1 (d : D), Ma A m0 p m1 (actL s k).1 → d = (actL s k).2 → psi_Machine_press_t1 A [some (.ref p), some (kyD k), some d] m1 (endD R x) := by
    rintro m1 d ⟨ta', ma', ra', W1⟩ rfl
    simp [psi_Machine_press_t1, gf_many W1.hp, sf_many W1.hp, wAdd]
    simp [psi_Machine_press_t2]
    exact h _ ⟨ta', ma', ra', W1.put (s' := { (actL s k).1 with many := (actL s k).1.many + 1 }) rfl rfl rfl⟩ (ok_press hok) (let sm := act_sm hk hsm; ⟨sm.t, sm.m, sm.r, sm.g⟩)
  have eqw : ∀ (a b : String) (R : KD), wEq (.str (PySem.Str.ofString a)) (.str (PySem.Str.ofString b)) m R = R (.bl (decide (a = b))) m := fun a b R => by
    show R (.bl (decide (PySem.Str.ofString a = PySem.Str.ofString b))) m = _
    rw [show (decide (PySem.Str.ofString a = PySem.Str.ofString b)) = decide (a = b) from decide_eq_decide.mpr so_inj]
  have hW : Ma A m0 p m s := ⟨ta, ma, ra, W⟩
  have move : isMove k = true → (actL s k) = stepL1 s k → (∀ K : KD, wIx (kyD k) (.int 0) m K = K (.str (PySem.Str.ofString (kyW k))) m) → kyW k ≠ "sign" → kyW k ≠ "lift" → kyW k ∈ ["blank", "half", "back", "tab"] → psi_Machine_press A (startD 3 [.ref p, kyD k]) m (endD R x) := by
    intro ht ha hx n1 n2 hi
    simp [psi_Machine_press, hx, eqw, n1, n2]
    refine ⟨by decide, wIn_yes (ns := ["blank", "half", "back", "tab"]) hi ?_⟩
    simp [hx, ow_move W.hp]
    refine ⟨p, k, m0, s, rfl, ht, hW, hok, by omega, fun m' hW' => ?_⟩
    rw [← ha] at hW' ⊢
    exact tl _ _ hW' rfl
  have roll : isRoll k = true → (actL s k) = stepL1 s k → (∀ K : KD, wIx (kyD k) (.int 0) m K = K (.str (PySem.Str.ofString (kyW k))) m) → kyW k ≠ "sign" → kyW k ≠ "lift" → kyW k ∉ ["blank", "half", "back", "tab"] → kyW k ∈ ["return", "up", "down"] → psi_Machine_press A (startD 3 [.ref p, kyD k]) m (endD R x) := by
    intro ht ha hx n1 n2 hi hj
    simp [psi_Machine_press, hx, eqw, n1, n2]
    refine ⟨by decide, wIn_no (ns := ["blank", "half", "back", "tab"]) hi ?_⟩
    simp [hx]
    refine ⟨by decide, wIn_yes (ns := ["return", "up", "down"]) hj ?_⟩
    simp [hx, ow_roll W.hp]
    refine ⟨p, k, m0, s, rfl, ht, hW, fun m' hW' => ?_⟩
    rw [← ha] at hW' ⊢
    exact tl _ _ hW' rfl
  have turn : isTurn k = true → (actL s k) = turnL s k → (∀ K : KD, wIx (kyD k) (.int 0) m K = K (.str (PySem.Str.ofString (kyW k))) m) → kyW k ≠ "sign" → kyW k ≠ "lift" → kyW k ∉ ["blank", "half", "back", "tab"] → kyW k ∉ ["return", "up", "down"] → psi_Machine_press A (startD 3 [.ref p, kyD k]) m (endD R x) := by
    intro ht ha hx n1 n2 hi hj
    simp [psi_Machine_press, hx, eqw, n1, n2]
    refine ⟨by decide, wIn_no (ns := ["blank", "half", "back", "tab"]) hi ?_⟩
    simp [hx]
    refine ⟨by decide, wIn_no (ns := ["return", "up", "down"]) hj ?_⟩
    simp [hx, ow_set_up W.hp]
    refine ⟨p, k, m0, s, rfl, ht, hW, hok, fun m' hW' => ?_⟩
    rw [← ha] at hW' ⊢
    exact tl _ _ hW' rfl
  cases k with
  | sign c =>
    have e1 : ∀ K : KD, wIx (kyD (.sign c)) (.int 0) m K = K (.str (PySem.Str.ofString "sign")) m := fun K => rfl
    have e2 : ∀ K : KD, wIx (kyD (.sign c)) (.int 1) m K = K (ch c) m := fun K => rfl
    simp [psi_Machine_press, e1, e2, eqw, ow_strike W.hp]
    exact ⟨p, c, m0, s, rfl, hW, by omega, by omega, fun m' hW' => tl _ _ hW' rfl⟩
  | lift c =>
    have e1 : ∀ K : KD, wIx (kyD (.lift c)) (.int 0) m K = K (.str (PySem.Str.ofString "lift")) m := fun K => rfl
    have e2 : ∀ K : KD, wIx (kyD (.lift c)) (.int 1) m K = K (ch c) m := fun K => rfl
    simp [psi_Machine_press, e1, e2, eqw, ow_lift W.hp]
    exact ⟨p, c, m0, s, rfl, hk, hW, hok, hsm.g, by omega, by omega, fun m' hW' => tl _ _ hW' rfl⟩
  | left => exact turn rfl rfl (fun _ => rfl) (by decide) (by decide) (by decide) (by decide)
  | right => exact turn rfl rfl (fun _ => rfl) (by decide) (by decide) (by decide) (by decide)
  | set => exact turn rfl rfl (fun _ => rfl) (by decide) (by decide) (by decide) (by decide)
  | clear => exact turn rfl rfl (fun _ => rfl) (by decide) (by decide) (by decide) (by decide)
  | all => exact turn rfl rfl (fun _ => rfl) (by decide) (by decide) (by decide) (by decide)
  | free => exact turn rfl rfl (fun _ => rfl) (by decide) (by decide) (by decide) (by decide)
  | ribbon => exact turn rfl rfl (fun _ => rfl) (by decide) (by decide) (by decide) (by decide)
  | caps => exact turn rfl rfl (fun _ => rfl) (by decide) (by decide) (by decide) (by decide)
  | back => exact move rfl rfl (fun _ => rfl) (by decide) (by decide) (by decide)
  | ret => exact roll rfl rfl (fun _ => rfl) (by decide) (by decide) (by decide) (by decide)
  | up => exact roll rfl rfl (fun _ => rfl) (by decide) (by decide) (by decide) (by decide)
  | down => exact roll rfl rfl (fun _ => rfl) (by decide) (by decide) (by decide) (by decide)
  | blank => exact move rfl rfl (fun _ => rfl) (by decide) (by decide) (by decide)
  | half => exact move rfl rfl (fun _ => rfl) (by decide) (by decide) (by decide)
  | tab => exact move rfl rfl (fun _ => rfl) (by decide) (by decide) (by decide)
theorem dt_worked : ∀ ds m R x, ph_worked A ds m R x → psi_worked A (startD 6 ds) m (endD R x) := by
  rintro ds m R x ⟨c, dead, dn, ks, rfl, hM, hk, hl, h⟩
  have L : LIM = 16777216 := rfl
  have e : ∀ (a b : List Ky) (s : LW), runL s (a ++ b) = ((runL (runL s a).1 b).1, (runL s a).2 ++ (runL (runL s a).1 b).2) := by
    intro a
    induction a with
    | nil => intro b s; simp [runL]
    | cons k a ih => intro b s; simp [runL, ih]
  simp [psi_worked]
  intro p np
  refine ⟨p, c, dead, dn, m, rfl, hM, np, rfl, fun m1 hW => ⟨rfl, ?_⟩⟩
  simp [asI]
  refine lc_inv (fun ds acc m' => ∃ done rest n, ks = done ++ rest ∧ ds = rest.map kyD ∧ acc = (runL (newS c dead dn) done).2 ∧ Ma A m p m' (runL (newS c dead dn) done).1 ∧ (runL (newS c dead dn) done).1.sm n ∧ n + rest.length ≤ ks.length ∧ acc.length = done.length) _ _ _ _ ⟨[], ks, 0, rfl, rfl, rfl, hW, ⟨by simp [newS, newL, runL], by simp [newS, newL, runL], by simp [newS, newL, runL], by simp [newS, newL, runL]⟩, by omega, rfl⟩ ?_ ?_
  · rintro d ds acc m' ⟨done, rest, n, e1, e2, e3, ⟨ta, ma, ra, W⟩, hs, hn, ha⟩ P hP
    cases rest with
    | nil => cases e2
    | cons k rest =>
      simp at e2
      obtain ⟨rfl, rfl⟩ := e2
      have hkk : kyOk k := hk k (by rw [e1]; simp)
      simp only [List.length_cons] at hn
      have hdl : done.length ≤ ks.length := by rw [e1]; simp
      refine ⟨trivial, ?_⟩
      simp [ow_press W.hp]
      refine ⟨p, k, m, _, n, rfl, hkk, ⟨ta, ma, ra, W⟩, ok_run (new_ok hM), hs, by omega, fun m2 W2 ok2 sm2 => ⟨by omega, hP _ _ ⟨done ++ [k], rest, n + 1, by rw [e1]; simp, rfl, ?_, ?_, ?_, by omega, by simp; omega⟩⟩⟩
      · rw [e, e3]; simp [runL]
      · rw [e]; exact W2
      · rw [e]; exact sm2
  · rintro acc m' ⟨done, rest, n, e1, e2, e3, hW', hs, hn, ha⟩
    have e4 : rest = [] := by cases rest with | nil => rfl | cons a b => cases e2
    subst e4
    rw [List.append_nil] at e1
    subst e1 e3
    refine ⟨trivial, by decide, h p m' hW'⟩
end DL
end
section
set_option maxHeartbeats 0
namespace DL
open PySem
def psi_is_key (A : Ad) : WS := wSeq (wIfS (wOr (wNot (wTest (wCallB wIsi (wCons (wVar 0) (wCons (wC (.ty "tuple")) (wNil)))))) (wOr (wTest (wOp wEq (wVar 0) (wTup (wNil)))) (wNot (wTest (wCallB wIsi (wCons (wOp wIx (wVar 0) (wC (.int 0))) (wCons (wC (.ty "str")) (wNil)))))))) (wRet (wC (.bl false))) (wNext)) (wSeq (wIfS (wTest (wOp wIn (wOp wIx (wVar 0) (wC (.int 0))) (wTup (wCons (wC (.str (PySem.Str.ofString "sign"))) (wCons (wC (.str (PySem.Str.ofString "lift"))) (wNil)))))) (wRet (wAndV (wOp wEq (wCallB wLen (wCons (wVar 0) (wNil))) (wC (.int 2))) (wCall 2 (ph_is_one_of A) (wCons (wOp wIx (wVar 0) (wC (.int 1))) (wCons (wC (.str G_SIGNS)) (wNil)))))) (wNext)) (wRet (wAndV (wOp wEq (wCallB wLen (wCons (wVar 0) (wNil))) (wC (.int 1))) (wOp wIn (wOp wIx (wVar 0) (wC (.int 0))) (wOp (wAdd false) (wC (.tup G_MOVES)) (wC (.tup G_TURNS)))))))
def psi_need_keys (A : Ad) : WS := wIfS (wOr (wNot (wTest (wCallB wIsi (wCons (wVar 0) (wCons (wC (.ty "tuple")) (wNil)))))) (wOr (wTest (wOp wGt (wCallB wLen (wCons (wVar 0) (wNil))) (wC (.int 4000)))) (wNot (wTest (wCallB wAll (wCons (wLc false [1] (iSeq (wVar 0)) (gNm 1) (wYes) (wCall 1 (ph_is_key A) (wCons (wVar 1) (wNil)))) (wNil))))))) (wRaise A.xNoKeys) (wNext)
def psi_need_both (A : Ad) : WS := wSeq (wExp (wCall 1 (ph_need_machine A) (wCons (wVar 0) (wNil)))) (wExp (wCall 1 (ph_need_keys A) (wCons (wVar 1) (wNil))))
def psi_pressed (A : Ad) : WS := wSeq (wExp (wCall 2 (ph_need_both A) (wCons (wVar 0) (wCons (wVar 1) (wNil))))) (wRet (wFgt (wOp wIx (wCall 3 (ph_worked A) (wCons (wVar 0) (wCons (wTup (wNil)) (wCons (wVar 1) (wNil))))) (wC (.int 1)))))
def psi_state (A : Ad) : WS := wSeq (wExp (wCall 2 (ph_need_both A) (wCons (wVar 0) (wCons (wVar 1) (wNil))))) (wRet (wFgt (wOwn1 A.cMachine "stand" 1 (ph_Machine_stand A) (wOp wIx (wCall 3 (ph_worked A) (wCons (wVar 0) (wCons (wTup (wNil)) (wCons (wVar 1) (wNil))))) (wC (.int 0))) (wNil))))
def psi_rung (A : Ad) : WS := wSeq (wExp (wCall 2 (ph_need_both A) (wCons (wVar 0) (wCons (wVar 1) (wNil))))) (wRet (wFgt (wFrz (wFld A.cMachine "rings" (wOp wIx (wCall 3 (ph_worked A) (wCons (wVar 0) (wCons (wTup (wNil)) (wCons (wVar 1) (wNil))))) (wC (.int 0)))))))
end DL
end
section
set_option maxHeartbeats 0
namespace DL
open PySem
theorem signs_len : G_SIGNS.length ≤ LIM := by decide +kernel
variable {A : Ad} (hA : AdOk A)
include hA
theorem dt_is_key : ∀ ds m R x, ph_is_key A ds m R x → psi_is_key A (startD 1 ds) m (endD R x) := by
  rintro ds m R x ⟨d, rfl, ha, h⟩
  have L : LIM = 16777216 := rfl
  obtain ⟨n, hn, ⟨xs, rfl, rfl⟩ | ⟨no, nt⟩⟩ := arg_ty ha
  · obtain ⟨h1, h2⟩ : dOk (.tup xs) 60 = true ∧ szOk (.tup xs) = true := by
      rcases ha with z | ⟨_, _, z, _⟩
      · exact z
      · cases z
    have h3 : xs.length ≤ LIM ∧ szOks xs = true := by simpa [szOk] using h2
    have h4 : dOks xs 59 = true := by simpa [dOk] using h1
    simp [psi_is_key, wIsi, hn, isiN]
    have weq : ∀ K : KD, K (.bl (decide (xs = []))) m → wEq (.tup xs) (.tup []) m K := by
      intro K hK
      refine ⟨h1, rfl, ?_⟩
      simp only [rv]
      cases xs with
      | nil => simpa [eqD, eqDs] using hK
      | cons a b => simpa [eqD, eqDs] using hK
    refine weq _ ?_
    cases xs with
    | nil => simp [isKeyB] at h ⊢; exact h
    | cons a rest =>
      simp
      have i0 : ∀ K : KD, wIx (.tup (a :: rest)) (.int 0) m K = K a m := fun K => by
        simp only [wIx, asQ, ok_some]
        have := atL_nat (a :: rest) 0
        simp only [Int.natCast_zero] at this
        rw [this]; rfl
      have ta : (tyN m a).isSome = true := dok_ty (dok_at h4 List.mem_cons_self)
      have sa : szOk a = true := sz_at h3.2 List.mem_cons_self
      simp [i0]
      obtain ⟨na, hna⟩ := Option.isSome_iff_exists.mp ta
      simp [hna]
      by_cases hs : na = "str"
      · subst hs
        obtain ⟨w, rfl⟩ : ∃ w, a = .str w := by
          have := dok_at h4 (List.mem_cons_self (a := a) (l := rest))
          cases a <;> simp [tyN, dOk] at hna this ⊢
        simp [isiN, i0]
        refine ⟨by decide, rfl, rfl, ?_⟩
        have e1 : inD (.str w) [.str (PySem.Str.ofString "sign"), .str (PySem.Str.ofString "lift")] = decide (w = PySem.Str.ofString "sign" ∨ w = PySem.Str.ofString "lift") := by
          simp [inD, eqD, eq_comm]
        rw [e1]
        by_cases hw : w = PySem.Str.ofString "sign" ∨ w = PySem.Str.ofString "lift"
        · simp only [isKeyB, if_pos hw] at h
          simp [hw, wLen, asQ, wEq]
          match rest, h with
          | [], h => simpa using h
          | [y], h =>
            simp
            have i1 : ∀ K : KD, wIx (.tup [.str w, y]) (.int 1) m K = K y m := fun K => rfl
            rw [i1]
            have hy : y ∈ [D.str w, y] := by simp
            refine ⟨y, G_SIGNS, rfl, dok_ty (dok_at h4 hy), fun t e => ?_, h⟩
            have := sz_at h3.2 hy
            rw [e] at this
            simpa [szOk] using this
          | y :: z :: l, h =>
            have : ¬ ((l.length : Int) + 1 + 1 + 1 = 2) := by omega
            simpa [this] using h
        · simp only [isKeyB, if_neg hw] at h
          simp [hw, wLen, asQ, wEq]
          match rest, h with
          | [], h =>
            simp [i0, wAdd]
            refine ⟨by decide, rfl, by decide, ?_⟩
            have e2 : inD (.str w) (G_MOVES ++ G_TURNS) = decide (w ∈ keyWords.map PySem.Str.ofString) := by
              have : G_MOVES ++ G_TURNS = (keyWords.map PySem.Str.ofString).map D.str := rfl
              rw [this]
              simp only [inD, List.any_map, Function.comp]
              rw [Bool.eq_iff_iff]
              simp [eqD]
            rw [e2]
            exact h
          | y :: l, h =>
            have : ¬ ((l.length : Int) + 1 + 1 = 1) := by omega
            simpa [this] using h
      · have : isiN na "str" = false := by
          simp [isiN, hs]
        rw [if_neg hs]
        have e : isKeyB (.tup (a :: rest)) = false := by
          cases a <;> simp [isKeyB]
          simp [tyN] at hna; exact absurd hna.symm hs
        rw [e] at h
        exact h
  · have e : isKeyB d = false := by
      cases d <;> simp [isKeyB]
      exact absurd rfl (no _)
    have e2 : isiN n "tuple" = false := by simp [isiN, nt]
    simp [psi_is_key, wIsi, hn, e2]
    rw [e] at h
    exact h
omit hA in
theorem kyG_lt {c : Nat} (h : c ∈ G_SIGNS.cps.toList) : c < 128 := by revert c; decide +kernel
omit hA in
theorem kyG_ok {k : Ky} (h : kyG k) : kyOk k := by
  cases k with
  | sign c => exact kyG_lt h
  | lift c => exact kyG_lt h
  | _ => trivial
omit hA in
theorem okS_words : ∀ k : Ky, okS (PySem.Str.ofString (kyW k)) = true ∧ (PySem.Str.ofString (kyW k)).length ≤ 10
  | .sign c => by show okS (PySem.Str.ofString "sign") = true ∧ (PySem.Str.ofString "sign").length ≤ 10; decide +kernel
  | .lift c => by show okS (PySem.Str.ofString "lift") = true ∧ (PySem.Str.ofString "lift").length ≤ 10; decide +kernel
  | .blank | .half | .back | .tab | .ret | .up | .down | .left | .right | .set | .clear | .all | .free | .ribbon | .caps => by decide +kernel
omit hA in
theorem ky_ok {k : Ky} (h : kyOk k) (n : Nat) : dOk (kyD k) (n + 1) = true := by
  obtain ⟨h1, h2⟩ := okS_words k
  cases k with
  | sign c => simp only [kyD]; rw [dOk, dOks, dOks, dOks, ok_ch c n h, ok_word "sign" n h1]; rfl
  | lift c => simp only [kyD]; rw [dOk, dOks, dOks, dOks, ok_ch c n h, ok_word "lift" n h1]; rfl
  | _ => simp only [kyD, k1]; rw [dOk, dOks, dOks, ok_word _ n h1]; rfl
omit hA in
theorem ky_sz (k : Ky) : szOk (kyD k) = true := by
  obtain ⟨h1, h2⟩ := okS_words k
  have L : LIM = 16777216 := rfl
  have h3 : (PySem.Str.ofString (kyW k)).length ≤ LIM := by omega
  have h4 : ∀ c : Nat, (⟨#[c]⟩ : Str).length ≤ LIM := fun c => by show 1 ≤ LIM; decide
  cases k with
  | sign c => simp only [kyW] at h3; simp [kyD, szOk, szOks, wordD, h3, h4]; decide
  | lift c => simp only [kyW] at h3; simp [kyD, szOk, szOks, wordD, h3, h4]; decide
  | _ => simp only [kyW] at h3; simp [kyD, k1, kyW, szOk, szOks, wordD, h3]; decide
omit hA in
theorem ky_key {k : Ky} (h : kyG k) : isKeyB (kyD k) = true := by
  cases k with
  | sign c => simp [kyD, isKeyB, wordD, oneOfB]; exact Array.mem_toList_iff.mp h
  | lift c => simp [kyD, isKeyB, wordD, oneOfB]; exact Array.mem_toList_iff.mp h
  | _ => simp [kyD, k1, kyW, isKeyB, wordD, keyWords]
omit hA in
theorem keys_arg {m : Store} {ks : List Ky} (h : ∀ k ∈ ks, kyOk k) (hl : ks.length ≤ LIM) : arg m (.tup (ks.map kyD)) := by
  refine .inl ⟨?_, ?_⟩
  · rw [dOk]
    exact doks_all fun d hd => by obtain ⟨k, hk, rfl⟩ := List.mem_map.mp hd; exact ky_ok (h k hk) 58
  · have : szOks (ks.map kyD) = true := szs_all fun d hd => by obtain ⟨k, hk, rfl⟩ := List.mem_map.mp hd; exact ky_sz k
    simp [szOk, this, hl]
omit hA in
theorem keys_keysB {ks : List Ky} (h : ∀ k ∈ ks, kyG k) (hl : ks.length ≤ 4000) : keysB (.tup (ks.map kyD)) = true := by
  simp [keysB, hl]
  exact fun k hk => ky_key (h k hk)
omit hA in
theorem isKey_is {d : D} (h : isKeyB d = true) : ∃ k, d = kyD k ∧ kyG k := by
  match d, h with
  | .tup (.str w :: rest), h =>
    simp only [isKeyB] at h
    split at h
    · rename_i hw
      match rest, h with
      | [y], h =>
        match y, h with
        | .str ⟨⟨[c]⟩⟩, h =>
          have hc : c ∈ G_SIGNS.cps.toList := by simpa [oneOfB] using h
          rcases hw with e | e
          · exact ⟨.sign c, by rw [e]; rfl, hc⟩
          · exact ⟨.lift c, by rw [e]; rfl, hc⟩
    · match rest, h with
      | [], h =>
        have hw : w ∈ keyWords.map PySem.Str.ofString := by simpa using h
        simp only [keyWords, List.map_cons, List.map_nil, List.mem_cons, List.mem_nil_iff, or_false] at hw
        rcases hw with e | e | e | e | e | e | e | e | e | e | e | e | e | e | e
        · exact ⟨.blank, by rw [e]; rfl, trivial⟩
        · exact ⟨.half, by rw [e]; rfl, trivial⟩
        · exact ⟨.back, by rw [e]; rfl, trivial⟩
        · exact ⟨.tab, by rw [e]; rfl, trivial⟩
        · exact ⟨.ret, by rw [e]; rfl, trivial⟩
        · exact ⟨.up, by rw [e]; rfl, trivial⟩
        · exact ⟨.down, by rw [e]; rfl, trivial⟩
        · exact ⟨.left, by rw [e]; rfl, trivial⟩
        · exact ⟨.right, by rw [e]; rfl, trivial⟩
        · exact ⟨.set, by rw [e]; rfl, trivial⟩
        · exact ⟨.clear, by rw [e]; rfl, trivial⟩
        · exact ⟨.all, by rw [e]; rfl, trivial⟩
        · exact ⟨.free, by rw [e]; rfl, trivial⟩
        · exact ⟨.ribbon, by rw [e]; rfl, trivial⟩
        · exact ⟨.caps, by rw [e]; rfl, trivial⟩
omit hA in
theorem keysB_is {d : D} (h : keysB d = true) : ∃ ks : List Ky, d = .tup (ks.map kyD) ∧ (∀ k ∈ ks, kyG k) ∧ ks.length ≤ 4000 := by
  match d, h with
  | .tup xs, h =>
    simp only [keysB, Bool.and_eq_true, decide_eq_true_eq, List.all_eq_true] at h
    obtain ⟨hl, h⟩ := h
    have : ∀ xs : List D, (∀ x ∈ xs, isKeyB x = true) → ∃ ks : List Ky, xs = ks.map kyD ∧ ∀ k ∈ ks, kyG k := by
      intro xs
      induction xs with
      | nil => exact fun _ => ⟨[], rfl, by simp⟩
      | cons a l ih =>
        intro h
        obtain ⟨k, e, hk⟩ := isKey_is (h a List.mem_cons_self)
        obtain ⟨ks, e2, hks⟩ := ih fun x hx => h x (List.mem_cons_of_mem _ hx)
        refine ⟨k :: ks, by rw [e, e2]; rfl, fun z hz => ?_⟩
        rcases List.mem_cons.mp hz with y | y
        · rw [y]; exact hk
        · exact hks z y
    obtain ⟨ks, e, hk⟩ := this xs h
    subst e
    exact ⟨ks, rfl, hk, by simpa using hl⟩
omit hA in
theorem kyD_inj {a b : Ky} (h : kyD a = kyD b) : a = b := by
  cases a <;> cases b <;> simp [kyD, k1, kyW, wordD] at h ⊢ <;> exact h
omit hA in
theorem kyDs_inj : ∀ {a b : List Ky}, a.map kyD = b.map kyD → a = b
  | [], [], _ => rfl
  | [], _ :: _, h => by simp at h
  | _ :: _, [], h => by simp at h
  | x :: a, y :: b, h => by
    simp only [List.map_cons, List.cons.injEq] at h
    rw [kyD_inj h.1, kyDs_inj h.2]
omit hA in
theorem inKeys.good {m : Store} {x : XD} {ks : List Ky} {K : List Ky → Prop} (hk : ∀ k ∈ ks, kyG k) (hl : ks.length ≤ 4000) (h : K ks) : inKeys A m (.tup (ks.map kyD)) x K := by
  have L : LIM = 16777216 := rfl
  refine ⟨keys_arg (fun k hk' => kyG_ok (hk k hk')) (by omega), fun z => ?_, fun ks' e _ _ => ?_⟩
  · rw [keys_keysB hk hl] at z; cases z
  · have e' : ks.map kyD = ks'.map kyD := by injection e
    rw [← kyDs_inj e']; exact h
omit hA in
theorem inKeys.no {m : Store} {d : D} {x : XD} {K : List Ky → Prop} (ha : arg m d) (hb : keysB d = false) (h : x A.xNoKeys m) : inKeys A m d x K := by
  refine ⟨ha, fun _ => h, fun ks e hk hl => ?_⟩
  rw [e, keys_keysB hk hl] at hb; cases hb
omit hA in
theorem inBoth.good {m : Store} {x : XD} {c : Int} {dead : List Nat} {dn : Int} {ks : List Ky} {K : Int → List Nat → Int → List Ky → Prop} (hM : MOk c dead dn) (hk : ∀ k ∈ ks, kyG k) (hl : ks.length ≤ 4000) (h : K c dead dn ks) : inBoth A m (machD c dead dn) (.tup (ks.map kyD)) x K := inMach.good hM (inKeys.good hk hl h)
omit hA in
theorem inBoth.imp {m : Store} {dm dk : D} {x : XD} {K K' : Int → List Nat → Int → List Ky → Prop} (h : inBoth A m dm dk x K) (f : ∀ c dead dn ks, dm = machD c dead dn → MOk c dead dn → dk = .tup (ks.map kyD) → (∀ k ∈ ks, kyG k) → ks.length ≤ 4000 → K c dead dn ks → K' c dead dn ks) : inBoth A m dm dk x K' :=
  inMach.imp h fun c dead dn e hM h => h.imp fun ks e2 hk hl h => f c dead dn ks e hM e2 hk hl h
theorem dt_need_keys : ∀ ds m R x, ph_need_keys A ds m R x → psi_need_keys A (startD 2 ds) m (endD R x) := by
  rintro ds m R x ⟨d, rfl, ha, hno, hyes⟩
  have h : if keysB d = true then R .non m else x A.xNoKeys m := by
    cases hb : keysB d with
    | false => simpa using hno hb
    | true =>
      obtain ⟨ks, e, hk, hl⟩ := keysB_is hb
      simpa using hyes ks e hk hl
  have L : LIM = 16777216 := rfl
  obtain ⟨n, hn, ⟨xs, rfl, rfl⟩ | ⟨no, nt⟩⟩ := arg_ty ha
  · obtain ⟨h1, h2⟩ : dOk (.tup xs) 60 = true ∧ szOk (.tup xs) = true := by
      rcases ha with z | ⟨_, _, z, _⟩
      · exact z
      · cases z
    have h3 : xs.length ≤ LIM ∧ szOks xs = true := by simpa [szOk] using h2
    have h4 : dOks xs 59 = true := by simpa [dOk] using h1
    simp [psi_need_keys, wIsi, hn, isiN, wLen, asQ, wGt]
    by_cases hl : xs.length ≤ 4000
    · have hl' : ¬ (4000 : Int) < (xs.length : Int) := by omega
      simp [hl', asI]
      refine lc_each (G := fun _ => True) (fun d => .bl (isKeyB d)) trivial xs [] _ (by simpa using h3.1) (fun d hd K1 hK => ?_) ?_
      · simp
        exact ⟨d, rfl, .inl ⟨dok_up d 59 (dok_at h4 hd), sz_at h3.2 hd⟩, hK⟩
      · rw [List.nil_append]
        have e : xs.map (fun d => D.bl (isKeyB d)) = (xs.map isKeyB).map .bl := by simp
        refine ⟨xs.map isKeyB, by rw [e]; rfl, ?_⟩
        have e2 : keysB (.tup xs) = xs.all isKeyB := by simp [keysB, hl]
        have e3 : (xs.map isKeyB).all id = xs.all isKeyB := by simp [List.all_map, Function.comp]
        rw [e2] at h
        rw [e3]
        cases hb : xs.all isKeyB <;> simp [hb] at h ⊢ <;> exact h
    · have hl' : (4000 : Int) < (xs.length : Int) := by omega
      have e2 : keysB (.tup xs) = false := by simp [keysB, hl]
      simp [hl', e2] at h ⊢
      exact h
  · have e : keysB d = false := by
      cases d <;> simp [keysB]
      exact absurd rfl (no _)
    have e2 : isiN n "tuple" = false := by simp [isiN, nt]
    simp [psi_need_keys, wIsi, hn, e2]
    simp [e] at h
    exact h
theorem dt_need_both : ∀ ds m R x, ph_need_both A ds m R x → psi_need_both A (startD 2 ds) m (endD R x) := by
  rintro ds m R x ⟨dm, dk, rfl, h⟩
  simp [psi_need_both]
  exact ⟨dm, rfl, h.1, h.2.1, fun c dead dn e hM => ⟨dk, rfl, h.2.2 c dead dn e hM⟩⟩
theorem dt_pressed : ∀ ds m R x, ph_pressed A ds m R x → psi_pressed A (startD 2 ds) m (endD R x) := by
  rintro ds m R x ⟨dm, dk, rfl, h⟩
  simp [psi_pressed]
  refine ⟨dm, dk, rfl, h.imp fun c dead dn ks e hM e2 hk hl hR => ?_⟩
  subst e e2
  clear h
  have h := hR
  refine ⟨c, dead, dn, ks, rfl, hM, fun k hk' => kyG_ok (hk k hk'), hl, fun p m' hW => ?_⟩
  obtain ⟨ta, ma, ra, W⟩ := hW
  exact ⟨m, W.sub, h⟩
theorem dt_state : ∀ ds m R x, ph_state A ds m R x → psi_state A (startD 2 ds) m (endD R x) := by
  rintro ds m R x ⟨dm, dk, rfl, h⟩
  simp [psi_state]
  refine ⟨dm, dk, rfl, h.imp fun c dead dn ks e hM e2 hk hl hR => ?_⟩
  subst e e2
  clear h
  have h := hR
  refine ⟨c, dead, dn, ks, rfl, hM, fun k hk' => kyG_ok (hk k hk'), hl, fun p m' hW => ?_⟩
  obtain ⟨ta, ma, ra, W⟩ := hW
  show ownP A.cMachine m' p _ _
  rw [ow_stand W.hp]
  exact ⟨p, m, _, rfl, ⟨ta, ma, ra, W⟩, m, W.sub, h⟩
theorem dt_rung : ∀ ds m R x, ph_rung A ds m R x → psi_rung A (startD 2 ds) m (endD R x) := by
  rintro ds m R x ⟨dm, dk, rfl, h⟩
  simp [psi_rung]
  refine ⟨dm, dk, rfl, h.imp fun c dead dn ks e hM e2 hk hl hR => ?_⟩
  subst e e2
  clear h
  have h := hR
  refine ⟨c, dead, dn, ks, rfl, hM, fun k hk' => kyG_ok (hk k hk'), hl, fun p m' hW => ?_⟩
  obtain ⟨ta, ma, ra, W⟩ := hW
  have i0 : ∀ (d : D) (K : KD), wIx (.tup [.ref p, d]) (.int 0) m' K = K (.ref p) m' := fun _ _ => rfl
  rw [i0]
  simp only [gf_rings W.hp]
  refine ⟨ra, rfl, _, W.hr, m, fun a o e => ?_, h⟩
  have : a ≠ ra := fun q => by rw [q, W.nr] at e; cases e
  unfold sdel
  rw [if_neg this]
  exact W.sub a o e
end DL
end
section
set_option maxHeartbeats 0
namespace DL
open PySem
def ph__law_key (A : Ad) : FW := fun ds m R _ => ∃ ns t us, ds = [.scr ns, .ref t] ∧ m t = some (.lst us) ∧ us.length + 2 < LIM ∧ ∀ (k : Ky) us', kyG k → us'.length = us.length + 2 → R (kyD k) (sup m t (.lst us'))
def ph__law_keys (A : Ad) : FW := fun ds m R _ => ∃ (ns : List Int) (t : Addr) (most : Nat) (us : List D), ds = [.scr ns, .ref t, .int (most : Nat)] ∧ most ≤ 1000 ∧ m t = some (.lst us) ∧ us.length + 5000 < LIM ∧ ∀ (ks : List Ky) us', (∀ k ∈ ks, kyG k) → ks.length ≤ most → us'.length ≤ us.length + 1 + 4 * most → R (.tup (ks.map kyD)) (sup m t (.lst us'))
def ph__law_stand (A : Ad) : FW := fun ds m R _ => ∃ w m0 s, ds = [.ref w] ∧ Wk m0 w m s ∧ s.tabs.Nodup ∧ R (standD s) m
end DL
end
section
set_option maxHeartbeats 0
namespace DL
open PySem PySem.Spec PyProof.Rows L2
def ltD (d e : D) : Bool := PySem.W.dataLt (toPy d) (toPy e)
def alikeD (d e : D) : Bool := PySem.W.alike (toPy d) (toPy e)
def sortable (ds : List D) : Prop := (∀ d ∈ ds, ∃ x r, d = .tup (x :: r)) ∨ ∀ d ∈ ds, d ≠ .non ∧ ∀ xs, d ≠ .tup xs
theorem ltD_int (i j : Int) : ltD (.int i) (.int j) = decide (i < j) := PySem.W.dataLt_int i j
theorem ltD_str (x y : Str) : ltD (.str x) (.str y) = decide (x.cps.toList < y.cps.toList) := PySem.W.dataLt_str x y
theorem ltD_nil : ltD (.tup []) (.tup []) = false := by
  show PySem.W.dataLt (.tuple []) (.tuple []) = false
  rw [PySem.W.dataLt_tuple]; exact PyProof.Rows.lex_irrefl _
theorem ltD_cons {x y : D} {xs ys : List D} {n k : Nat} (h : alikeD x y = true) (h1 : dOk x n = true) (h2 : dOk y k = true) : ltD (.tup (x :: xs)) (.tup (y :: ys)) = if eqD x y = true then ltD (.tup xs) (.tup ys) else ltD x y := by
  show PySem.W.dataLt (.tuple (toPy x :: toPys xs)) (.tuple (toPy y :: toPys ys)) = _
  rw [PySem.W.dataLt_tuple, PySem.W.dataLt_cons h, toPy_eq x y n k h1 h2]
  split
  · show _ = PySem.W.dataLt (.tuple (toPys xs)) (.tuple (toPys ys))
    rw [PySem.W.dataLt_tuple]
  · rfl
theorem alikeD_int (i j : Int) : alikeD (.int i) (.int j) = true := rfl
theorem alikeD_str (x y : Str) : alikeD (.str x) (.str y) = true := rfl
theorem alikeD_nil : alikeD (.tup []) (.tup []) = true := rfl
theorem alikeD_cons (x y : D) (xs ys : List D) : alikeD (.tup (x :: xs)) (.tup (y :: ys)) = (alikeD x y && alikeD (.tup xs) (.tup ys)) := rfl
theorem toPys_map : ∀ ds : List D, toPys ds = ds.map toPy
  | [] => rfl
  | d :: ds => by rw [toPys, toPys_map ds]; rfl
def wSortD (b : Bool) : WL := fun us m R => match us with
  | [d] => ∃ ds, asL m d = some ds ∧ dOks ds 59 = true ∧ (∀ x ∈ ds, ∀ y ∈ ds, alikeD x y = true) ∧ sortable ds ∧ ∀ es : List D, es.Perm ds → es.Pairwise (fun x y => ltD y x = false) → wNw b es m R
  | _ => False
def rSrt (K : PySem.W.Frag) : List V → Hp → VK → Prop := fun vs H Q => ∃ (a : Addr) (xs : List V) (ds : List D), vs = [V.ref a] ∧ SqL K H a xs ∧ L2.DpAll K H xs (toPys ds) ∧ dOks ds 59 = true ∧ (∀ x ∈ ds, ∀ y ∈ ds, alikeD x y = true) ∧ sortable ds ∧
  ∀ (zs : List (V × D)) (p : Addr), zs.Perm (xs.zip ds) → zs.Pairwise (fun x y => ltD y.2 x.2 = false) → H p = none → Q (.ref p) (upd H p (.lst (zs.map (·.1))))
theorem each_vals : ∀ {vs : List V} {us : List Value} {ds : List D}, Vals vs us → vs.length = ds.length → PySem.W.EachIs (fun (u : Value) (b : V × D) => RelV b.1 u) us (vs.zip ds)
  | [], _, [], .nil, _ => .nil
  | v :: vs, _, d :: ds, .cons h t, hl => .cons h (each_vals t (by simpa using hl))
  | [], _, _ :: _, .nil, hl => absurd hl (by simp)
  | _ :: _, _, [], _, hl => absurd hl (by simp)
theorem vals_each : ∀ {us : List Value} {zs : List (V × D)}, PySem.W.EachIs (fun (u : Value) (b : V × D) => RelV b.1 u) us zs → Vals (zs.map (·.1)) us
  | _, _, .nil => .nil
  | _, _, .cons h t => .cons h (vals_each t)
section
variable {X : Cx}
theorem reads_each {pins : List (Addr × Obj)} {σ : L2.St} {H : Hp} {s : Shared} (I : Inv X pins σ H s) : ∀ {vs : List V} {us : List Value} {ds : List D}, Vals vs us → L2.DpAll X.K H vs (toPys ds) → PySem.W.EachIs (fun (u : Value) (b : V × D) => ∃ as, Reads s.heap u (toPy b.2) as) us (vs.zip ds)
  | [], _, [], .nil, _ => .nil
  | v :: vs, _, d :: ds, .cons h t, .cons p q => .cons (Dp.reads I (toPy d) v _ p h) (reads_each I t q)
  | [], _, _ :: _, .nil, h => by cases h
  | _ :: _, _, [], _, h => by cases h
theorem cr_srt (hu : X.A.units + 65 < cLine) : CallR X (.builtin "sorted") (rSrt X.K) := by
  intro pins s σ H vs us Q I r h
  obtain ⟨a, xs, ds, rfl, hs, hd, hok, hal, hso, q⟩ := h
  obtain ⟨its, rv, hl, hz⟩ := I.list hs
  rw [Vals.ref1 r]
  have hlen : xs.length = ds.length := by
    have : ∀ {xs : List V} {ds : List D}, L2.DpAll X.K H xs (toPys ds) → xs.length = ds.length := fun {xs} => by
      induction xs with
      | nil => intro ds h; cases ds with
        | nil => rfl
        | cons a b => cases h
      | cons x xs ih => intro ds h; cases ds with
        | nil => cases h
        | cons a b => cases h with | cons h1 h2 => simp [ih h2]
    exact this hd
  have hzl : (xs.zip ds).length = ds.length := by rw [List.length_zip, hlen]; simp
  have hmem : ∀ z ∈ xs.zip ds, z.2 ∈ ds := fun z hz => (List.of_mem_zip hz).2
  refine PySem.W.sorted_data (enc := fun b : V × D => toPy b.2) (bs := xs.zip ds) hl.isList (each_vals rv hlen) (reads_each I rv hd) ?_ ?_ ?_ ?_ fun out hol he => ?_
  · intro d hd d' hd'
    obtain ⟨z, h1, rfl⟩ := List.mem_map.mp hd
    obtain ⟨z', h2, rfl⟩ := List.mem_map.mp hd'
    exact hal _ (hmem z h1) _ (hmem z' h2)
  · rcases hso with h | h
    · left
      intro d hd
      obtain ⟨z, h1, rfl⟩ := List.mem_map.mp hd
      obtain ⟨x, rr, e⟩ := h _ (hmem z h1)
      exact ⟨toPy x, toPys rr, by rw [e]; rfl⟩
    · right
      intro d hd
      obtain ⟨z, h1, rfl⟩ := List.mem_map.mp hd
      obtain ⟨e1, e2⟩ := h _ (hmem z h1)
      have hk : dOk z.2 59 = true := by
        have : ∀ {ys : List D} {y : D}, dOks ys 59 = true → y ∈ ys → dOk y 59 = true := fun {ys y} h hy => by
          induction ys with
          | nil => simp at hy
          | cons a l ih =>
            have h' : dOk a 59 = true ∧ dOks l 59 = true := by simpa [dOks] using h
            rcases List.mem_cons.mp hy with e | e
            · rw [e]; exact h'.1
            · exact ih h'.2 e
        exact this hok (hmem z h1)
      cases hz2 : z.2 with
      | non => exact absurd hz2 e1
      | tup ys => exact absurd hz2 (e2 ys)
      | ref a => rw [hz2] at hk; simp [dOk] at hk
      | scr a => rw [hz2] at hk; simp [dOk] at hk
      | ty a => rw [hz2] at hk; simp [dOk] at hk
      | _ => simp [toPy]
  · rw [hzl, ← hlen]; exact hz
  · intro b hb
    have := (toPys_lay ds 59 hok).2
    have h2 : (toPy b.2).depth ≤ PyData.depthAll (toPys ds) := by
      have : ∀ {ys : List D} {y : D}, y ∈ ys → (toPy y).depth ≤ PyData.depthAll (toPys ys) := fun {ys y} hy => by
        induction ys with
        | nil => simp at hy
        | cons a l ih =>
          rw [toPys, PyData.depthAll]
          rcases List.mem_cons.mp hy with e | e
          · rw [e]; omega
          · have := ih e; omega
      exact this (hmem b hb)
    omega
  · have hp : ((xs.zip ds).mergeSort (PySem.W.dataLe false fun b : V × D => toPy b.2)).Perm (xs.zip ds) := List.mergeSort_perm _ _
    have hsort : ((xs.zip ds).mergeSort (PySem.W.dataLe false fun b : V × D => toPy b.2)).Pairwise (fun x y => ltD y.2 x.2 = false) := by
      have T := PySem.W.sortLe_total (listOrd itemOrd) false (fun b : V × D => PySem.W.keyToks (toPy b.2))
      have h := List.pairwise_mergeSort (le := PySem.W.dataLe false fun b : V × D => toPy b.2) T.trans (fun a b => by rw [Bool.or_eq_true]; exact T.total a b) (xs.zip ds)
      exact h.imp fun {x y} h => by
        simp only [PySem.W.dataLe_eq, cond_false, Bool.not_eq_true'] at h
        exact h
    obtain ⟨ep, he'⟩ := PyProof.Rows.sortedAll_at s.heap its out.toArray
    have hlen2 : (((xs.zip ds).mergeSort (PySem.W.dataLe false fun b : V × D => toPy b.2)).map (·.1)).length ≤ sizeLine := by
      rw [List.length_map, hp.length_eq, hzl, ← hlen]; exact hz
    exact ⟨.ref _, upd H (s.heap.objs.size + 1) (.lst (((xs.zip ds).mergeSort (PySem.W.dataLe false fun b : V × D => toPy b.2)).map (·.1))), I.laid (t' := s.toks) (fun _ _ => PyProof.Rows.sortedAll_old) (Nat.le_succ _) ⟨hlen2, out, ep, vals_each he, he'⟩, rfl, q _ _ hp hsort (I.hok.fresh (Nat.le_succ _))⟩
theorem dp_zip {K : PySem.W.Frag} {B : Hp} : ∀ {vs : List V} {ds : List D}, DpAll K B vs ds → ∀ z ∈ vs.zip ds, Dp K B z.1 z.2
  | _, _, .nil, z, h => by simp at h
  | _, _, .cons p q, z, h => by
    rcases List.mem_cons.mp h with e | e
    · rw [e]; exact p
    · exact dp_zip q z e
theorem zip_dp {K : PySem.W.Frag} {B : Hp} : ∀ {zs : List (V × D)}, (∀ z ∈ zs, Dp K B z.1 z.2) → DpAll K B (zs.map (·.1)) (zs.map (·.2))
  | [], _ => .nil
  | z :: zs, h => .cons (h z List.mem_cons_self) (zip_dp fun y hy => h y (List.mem_cons_of_mem _ hy))
theorem sortD_ {b : Bool} (hu : X.A.units + 65 < cLine) : CallD X (.builtin "sorted") (wSortD b) := by
  refine ⟨_, cr_srt hu, fun B us ds p H m R Q S h t => ?_⟩
  match ds, h with
  | [d], h =>
    obtain ⟨v, rfl, p1⟩ := one_arg p rfl
    obtain ⟨ds, h1, hok, hal, hso, h2⟩ := h
    obtain ⟨a, vs, rfl, ha, pa⟩ := seqL S p1 h1
    have hlen := pa.length
    refine ⟨a, vs, ds, rfl, .inl (.inl ha), toPys_dp S.same pa hok, hok, hal, hso, fun zs q z1 z2 nq => ?_⟩
    have hz : DpAll X.K B (zs.map (·.1)) (zs.map (·.2)) := zip_dp fun z hz => dp_zip pa z (z1.mem_iff.mp hz)
    refine eff_nw S t hz (h2 (zs.map (·.2)) ?_ ?_) q nq
    · have := z1.map (·.2)
      rwa [List.map_snd_zip (Nat.le_of_eq hlen.symm)] at this
    · exact List.pairwise_map.mpr z2
end
theorem perm_map {α β : Type} {f : α → β} {es : List β} {xs : List α} (h : es.Perm (xs.map f)) : ∃ ys : List α, es = ys.map f ∧ ys.Perm xs := by
  generalize hl : xs.map f = l at h
  induction h generalizing xs with
  | nil => exact ⟨[], rfl, by cases xs with | nil => exact .refl _ | cons a b => cases hl⟩
  | @cons x l1 l2 h ih =>
    cases xs with
    | nil => cases hl
    | cons a xs =>
      simp only [List.map_cons, List.cons.injEq] at hl
      obtain ⟨ys, e, p⟩ := ih hl.2
      exact ⟨a :: ys, by rw [e, List.map_cons, hl.1], p.cons a⟩
  | swap x y l =>
    match xs, hl with
    | a :: b :: xs, hl =>
      simp only [List.map_cons, List.cons.injEq] at hl
      exact ⟨b :: a :: xs, by rw [List.map_cons, List.map_cons, hl.1, hl.2.1, hl.2.2], List.Perm.swap _ _ _⟩
  | trans h1 h2 ih1 ih2 =>
    obtain ⟨ys, e, p⟩ := ih2 hl
    obtain ⟨zs, e2, p2⟩ := ih1 e.symm
    exact ⟨zs, e2, p2.trans p⟩
theorem sort_by {α : Type} (f : α → D) (lt : α → α → Bool) (xs : List α) {b : Bool} {m : Store} {R : KD} {d : D} (hd : asL m d = some (xs.map f)) (hok : ∀ x ∈ xs, dOk (f x) 59 = true) (hal : ∀ x ∈ xs, ∀ y ∈ xs, alikeD (f x) (f y) = true) (hso : sortable (xs.map f)) (hlt : ∀ x ∈ xs, ∀ y ∈ xs, ltD (f x) (f y) = lt x y)
    (h : ∀ ys : List α, ys.Perm xs → ys.Pairwise (fun x y => lt y x = false) → wNw b (ys.map f) m R) : wSortD b [d] m R := by
  refine ⟨xs.map f, hd, ?_, ?_, hso, fun es h1 h2 => ?_⟩
  · have : ∀ {l : List D}, (∀ d ∈ l, dOk d 59 = true) → dOks l 59 = true := fun {l} h => by
      induction l with
      | nil => rfl
      | cons a l ih => rw [dOks, h a List.mem_cons_self, ih fun d hd => h d (List.mem_cons_of_mem _ hd)]; rfl
    exact this fun d hd => by obtain ⟨x, hx, rfl⟩ := List.mem_map.mp hd; exact hok x hx
  · intro x hx y hy
    obtain ⟨x', hx', rfl⟩ := List.mem_map.mp hx
    obtain ⟨y', hy', rfl⟩ := List.mem_map.mp hy
    exact hal x' hx' y' hy'
  · obtain ⟨ys, rfl, p⟩ := perm_map h1
    refine h ys p ?_
    have := List.pairwise_map.mp h2
    refine this.imp_of_mem fun {x y} hx hy h => ?_
    rw [← hlt y (p.mem_iff.mp hy) x (p.mem_iff.mp hx)]; exact h
end DL
end
section
set_option maxHeartbeats 0
namespace DL
open PySem PySem.Spec PyProof.Rows L2 StrLaws
theorem occ_one (s : Str) (c : Nat) (lim : Nat) : ∀ (n i : Nat) (st : Array Nat × Nat), st.2 ≤ i → st.1.size + n ≤ lim → i + n ≤ s.length + 1 →
    (forIn (List.range' i n) st (occBody s ⟨#[c]⟩ s.length lim)).run.fst.size = st.1.size + ((s.cps.toList.drop i).take n).count c
  | 0, i, st, _, _, _ => by simp [List.range']
  | n + 1, i, st, h1, h2, h3 => by
    have hat : (i + 1 ≤ s.length ∧ Builtin.Str.subAt s ⟨#[c]⟩ i = true) ↔ s.cps.toList[i]? = some c := StrLaws.subAt_one s c i
    rw [List.range'_succ, List.forIn_cons]
    unfold occBody
    have hl : s.cps.toList.length = s.length := by simp [PySem.Str.length]
    split
    · rename_i hc
      have hcc : s.cps.toList[i]? = some c := hat.mp ⟨by have := hc.1.2; simpa [PySem.Str.length] using this, hc.2⟩
      have hi : i < s.cps.toList.length := by
        rcases Nat.lt_or_ge i s.cps.toList.length with z | z
        · exact z
        · rw [List.getElem?_eq_none z] at hcc; cases hcc
      have hx : s.cps.toList[i] = c := by rw [List.getElem?_eq_getElem hi] at hcc; exact Option.some.inj hcc
      have ih := occ_one s c lim n (i + 1) (st.1.push i, i + 1) (Nat.le_refl _) (by simp; omega) (by omega)
      refine Eq.trans ih ?_
      rw [List.drop_eq_getElem_cons hi, List.take_succ_cons, List.count_cons, hx]
      simp; omega
    · rename_i hc
      have ih := occ_one s c lim n (i + 1) st (by omega) (by omega) (by omega)
      refine Eq.trans ih ?_
      rcases Nat.lt_or_ge i s.cps.toList.length with hi | hi
      · have hx : s.cps.toList[i] ≠ c := fun e => hc ⟨⟨⟨by omega, h1⟩, by
          show i + 1 ≤ s.length; omega⟩, (hat.mpr (by rw [List.getElem?_eq_getElem hi, e])).2⟩
        rw [List.drop_eq_getElem_cons hi, List.take_succ_cons, List.count_cons]
        have : (s.cps.toList[i] == c) = false := by simpa using hx
        rw [this]; simp
      · rw [List.drop_of_length_le hi, List.drop_of_length_le (by omega)]; simp
theorem count_one (s : Str) (c : Nat) : Txt.count s ⟨#[c]⟩ = ((s.cps.toList.count c : Nat) : Int) := by
  unfold Txt.count
  have hl : s.cps.toList.length = s.length := by simp [PySem.Str.length]
  have h := occ_one s c (s.length + 1) (s.length + 1) 0 (#[], 0) (Nat.le_refl _) (by simp) (by omega)
  rw [occ_eq, Array.length_toList, Nat.sub_zero, h, List.drop_zero, List.take_of_length_le (by omega)]
  simp
theorem start_one (s : Str) (c : Nat) : Txt.startswith s ⟨#[c]⟩ = decide (s.cps.toList.head? = some c) := by
  unfold Txt.startswith
  have h := StrLaws.subAt_one s c 0
  rw [Bool.eq_iff_iff, Bool.and_eq_true, decide_eq_true_eq, decide_eq_true_eq]
  rw [h, List.head?_eq_getElem?]
def wSCount : WM := fun d us m R => match d, us with
  | .str s, [.str t] => ∃ c, t = ⟨#[c]⟩ ∧ R (.int ((s.cps.toList.count c : Nat) : Int)) m
  | _, _ => False
def wSStart : WM := fun d us m R => match d, us with
  | .str s, [.str t] => ∃ c, t = ⟨#[c]⟩ ∧ R (.bl (decide (s.cps.toList.head? = some c))) m
  | _, _ => False
section
variable {X : Cx}
theorem scount_ : MtD X "str.count" wSCount := by
  refine ⟨_, mt_count, fun B u d us ds p ps H m R Q S h t => ?_⟩
  match d, ds, h with
  | .str s, [.str w], h =>
    obtain ⟨v, rfl, q⟩ := one_arg ps rfl
    cases p
    cases q
    obtain ⟨c, rfl, h3⟩ := h
    rw [← count_one] at h3
    exact ⟨s, _, rfl, rfl, eff_ret S t (.int _) h3⟩
theorem sstart_ : MtD X "str.startswith" wSStart := by
  refine ⟨_, mt_startswith, fun B u d us ds p ps H m R Q S h t => ?_⟩
  match d, ds, h with
  | .str s, [.str w], h =>
    obtain ⟨v, rfl, q⟩ := one_arg ps rfl
    cases p
    cases q
    obtain ⟨c, rfl, h3⟩ := h
    rw [← start_one] at h3
    exact ⟨s, _, rfl, rfl, eff_ret S t (.bl _) h3⟩
end
end DL
end
section
set_option maxHeartbeats 0
namespace DL
open PySem
def mkLt (a b : Mk) : Bool := decide (a.row < b.row) || (decide (a.row = b.row) && (decide (a.place < b.place) || (decide (a.place = b.place) && decide (a.n < b.n))))
def sortM (ms : List Mk) : List Mk := ms.mergeSort (fun a b => !mkLt b a)
def ph__law_marks (A : Ad) : FW := fun ds m R _ => ∃ w m0 s, ds = [.ref w] ∧ Wk m0 w m s ∧ s.marks.Pairwise (fun a b => a.n < b.n) ∧ (∀ k ∈ s.marks, k.sign < 128) ∧ s.marks.length < 1000000 ∧ R (.lst ((sortM s.marks).map mkD)) m
end DL
end
section
set_option maxHeartbeats 0
namespace DL
open PySem PySem.Spec PyProof.Rows L2
section
variable {prog : Program} {w : World} {A : Around} {E : Value → Shared → Prop} {s : Shared}
theorem enum_new {v : Value} {o : Obj} {H : Heap → Prop} (B : Begins v o H) :
    Meets (Builtin.«enumerate.__new__» ⟨[.type "enumerate", v], []⟩) (fun _ R s => H s.heap ∧ R (.ok (.ret (.ref (s.heap.push o).objs.size))) { s with heap := (s.heap.push o).push { cls := .type "enumerate", data := .fields #[.none, .bool false, .ref s.heap.objs.size, rawInt 0, .none, .none] } }) :=
  .of_wp fun prog w A R s h => by
    obtain ⟨hp, g, d, tk, os⟩ := s
    obtain ⟨h1, h⟩ := h
    have hsub := sub_enumerate
    have q1 : ∀ {A' : Around} {E : Value → Shared → Prop} {Q : Value → Shared → Prop}, Q (.ref hp.objs.size) ⟨hp.push o, g, d, tk, os⟩ → wpAny (model prog w) A' (pyIter v) Q E ⟨hp, g, d, tk, os⟩ := fun q => B.iter prog w _ _ ⟨hp, g, d, tk, os⟩ _ h1 q
    wp_walk using q1
    refine wpAny_stack_any fun st => wpAny_pure ?_
    split
    · rename_i c _ _ _ _ _
      cases (c == Value.type "enumerate") <;> (wp_walk using q1; exact ⟨_, rfl, h⟩)
    · wp_walk using q1; exact ⟨_, rfl, h⟩
theorem enum_call {v : Value} {o : Obj} {H : Heap → Prop} {Q : Value → Shared → Prop} (B : Begins v o H) (hH : H s.heap)
    (h : ∀ h', IsEnum h' (s.heap.objs.size + 1) s.heap.objs.size 0 .none → h'.get? s.heap.objs.size = some o → (∀ b o, s.heap.get? b = some o → h'.get? b = some o) → Q (.ref (s.heap.objs.size + 1)) { s with heap := h' }) :
    wpAny (model prog w) A (call (.type "enumerate") [v]) Q E s := by
  refine callType_new F.called_enumerate (by decide) (F.typeCall_enumerate_1 _) (F.newCall_enumerate_1 _) (fun obj => F.args_object_init_2 obj _) F.entry_enumerate_new (enum_new B) ⟨hH, ?_⟩
  have hz : (s.heap.push o).objs.size = s.heap.objs.size + 1 := Heap.size_push ..
  have he := Heap.get?_push_size (s.heap.push o) (o := { cls := .type "enumerate", data := .fields #[.none, .bool false, .ref s.heap.objs.size, rawInt 0, .none, .none] }) rfl
  rw [hz] at he
  show _ ∧ _
  rw [hz]
  exact ⟨⟨_, he, rfl⟩, h _ he (Heap.get?_push_of_some _ (Heap.get?_push_size _ B.free)) fun b o x => Heap.get?_push_of_some _ (Heap.get?_push_of_some _ x)⟩
end
def IteT (K : PySem.W.Frag) (a : Addr) (xs : List V) : It :=
  ⟨fun i H => i < xs.length ∧ SqT K H a xs, fun i H v H' => ∃ T x, v = .ref T ∧ H T = none ∧ H' = upd H T (.tup [.int (i : Nat), x]) ∧ xs[i]? = some x, fun i H => xs.length ≤ i ∧ SqT K H a xs⟩
def IteS (x : Str) : It :=
  ⟨fun i _ => i < x.cps.size, fun i H v H' => ∃ T c, v = .ref T ∧ H T = none ∧ H' = upd H T (.tup [.int (i : Nat), .str ⟨#[c]⟩]) ∧ x.cps[i]? = some c, fun i _ => x.cps.size ≤ i⟩
theorem turn_enumT {P : Program} {w : World} {K : PySem.W.Frag} {elts : List Expr} {kk : Nat} {tpos : Pos} (a e it : Addr) (xs : List V) :
    Turn P w K (.Tuple elts kk tpos) (IteT K a xs) [e, it] e (fun i h => i ≤ xs.length ∧ (∃ old, IsEnum h e it ((i : Nat) : Int) old) ∧ h.IsTupleIter it a i ∧ e ≠ it ∧ a ≠ it ∧ a ≠ e) where
  mem := by simp
  obj := fun i h st b hb => by
    obtain ⟨_, ⟨old, he⟩, ⟨o, ho, hc, hd⟩, _⟩ := st
    have e' : b = e ∨ b = it := by simpa using hb
    rcases e' with z | z
    · rw [z]; exact ⟨_, he, fun v q => nomatch q⟩
    · rw [z]; exact ⟨o, ho, fun v q => by rw [hd] at q; cases q⟩
  keep := fun i h h' st k => let ⟨hi0, ⟨old, he⟩, hi, hne⟩ := st; ⟨hi0, ⟨old, k e (by simp) _ he⟩, hi.at fun o q => k it (by simp) o q, hne⟩
  item := by
    intro X hP hw hK hc i pins s σ H E I hf st hg
    subst hP hw hK
    obtain ⟨hi0, ⟨old, he⟩, hit, hne, hai, hae⟩ := st
    obtain ⟨hi, hq⟩ := hg
    obtain ⟨its, rv, p, hz⟩ := I.tuple hq
    have hil : i < its.toArray.size := by rw [List.size_toArray, ← rv.length]; exact hi
    have hel : e < s.heap.objs.size := Heap.lt_size he
    have hitl : it < s.heap.objs.size := by obtain ⟨_, q, _⟩ := hit; exact Heap.lt_size q
    have hh : X.A.in1.handled = none := by simp [I.ok.hd hc]
    refine wpAny_pyNext_enum_itemD (Draws.tuple hh it a hai its.toArray) he ⟨hit, p⟩ hil hne (by simp; exact ⟨hne, fun z => hae z.symm⟩) fun u h' tk hu ho hst hT hsz hk => ?_
    obtain ⟨x, hx, rx⟩ : ∃ x, xs[i]? = some x ∧ RelV x u := by
      obtain ⟨u', h1, h2⟩ := rv.get (List.getElem?_eq_getElem hi)
      have : its[i]? = some u := by simpa using hu
      rw [this] at h1; cases h1
      exact ⟨xs[i], List.getElem?_eq_getElem hi, h2⟩
    refine ⟨_, rfl, wpAny_letOwnedTupleGo_enum (s := { s with heap := h', toks := tk + 1 }) ho fun h'' he' sb => ?_⟩
    have hT2 : h''.get? s.heap.objs.size = some { cls := .type "tuple", data := .seq #[.int i tk, u] } := (sb.2 _ (Nat.ne_of_gt hel)).trans hT
    have new : ObjOk X.prog X.w (upd H s.heap.objs.size (.tup [.int (i : Nat), x])) h'' s.heap.objs.size (.tup [.int (i : Nat), x]) :=
      ⟨by show 2 ≤ sizeLine; decide, [.int i tk, u], .cons ⟨_, rfl⟩ (.cons rx .nil), ⟨_, hT2, rfl, _, rfl⟩⟩
    have I1 : Inv X pins σ (upd H s.heap.objs.size (.tup [.int (i : Nat), x])) { s with heap := h'', toks := tk + 1 } :=
      I.turnedNew (ch := [e, it]) (fun b ob hb q => (sb.2 b (fun z => hb (by simp [z]))).trans (hk b ob (fun z => hb (by simp [z])) (fun z => hb (by simp [z])) q)) hf (Nat.le_refl _) new
    refine ⟨.ref s.heap.objs.size, _, I1, rfl, ⟨_, x, rfl, I.hok.fresh (Nat.le_refl _), rfl, hx⟩, ⟨hi, ⟨u, ?_⟩, hst.1.at fun o q => (sb.2 it (Ne.symm hne)).trans q, hne, hai, hae⟩, fun b hb => ?_⟩
    · have e1 : ((i + 1 : Nat) : Int) = (i : Int) + 1 := by omega
      rw [e1]; exact he'
    · have hb' : b < s.heap.objs.size := by
        have e' : b = e ∨ b = it := by simpa using hb
        rcases e' with z | z
        · rw [z]; exact hel
        · rw [z]; exact hitl
      rw [upd_ne (Nat.ne_of_lt hb')]
      exact (hf b hb).1
  done := by
    intro X hP hw hK hc i pins s σ H E I hf st hg
    subst hP hw hK
    obtain ⟨hi0, ⟨old, he⟩, hit, hne, hai, hae⟩ := st
    obtain ⟨hi, hq⟩ := hg
    obtain ⟨its, rv, p, hz⟩ := I.tuple hq
    obtain ⟨f0, f1, f2, f3, f4, f5⟩ := hf it (by simp)
    have hh : X.A.in1.handled = none := by simp [I.ok.hd hc]
    have hin : i = its.toArray.size := by rw [List.size_toArray, ← rv.length]; omega
    exact wpAny_pyNext_enum_endD (Draws.tuple hh it a hai its.toArray) he ⟨by rw [← hin]; exact hit, p⟩ fun h' eb => ⟨rfl, I.turned (t' := s.toks) (fun b o hb q => eb b o hb q) f0 f1 f3 f4 f5⟩
  self := fun A i s Q E st h => let ⟨_, ⟨_, he⟩, _⟩ := st; wpAny_pyIter_enum he h
theorem turn_enumS {P : Program} {w : World} {K : PySem.W.Frag} {elts : List Expr} {kk : Nat} {tpos : Pos} (e it : Addr) (x : Str) (t : Tok) :
    Turn P w K (.Tuple elts kk tpos) (IteS x) [e, it] e (fun i h => i ≤ x.cps.size ∧ (∃ old, IsEnum h e it ((i : Nat) : Int) old) ∧ h.IsStrIter it (strIterType x) x t i ∧ e ≠ it) where
  mem := by simp
  obj := fun i h st b hb => by
    obtain ⟨_, ⟨old, he⟩, ⟨o, ho, hc, hd⟩, _⟩ := st
    have e' : b = e ∨ b = it := by simpa using hb
    rcases e' with z | z
    · rw [z]; exact ⟨_, he, fun v q => nomatch q⟩
    · rw [z]; exact ⟨o, ho, fun v q => by rw [hd] at q; cases q⟩
  keep := fun i h h' st k => let ⟨hi0, ⟨old, he⟩, ⟨o, ho, hr⟩, hne⟩ := st; ⟨hi0, ⟨old, k e (by simp) _ he⟩, ⟨o, k it (by simp) o ho, hr⟩, hne⟩
  item := by
    intro X hP hw hK hc i pins s σ H E I hf st hg
    subst hP hw hK
    obtain ⟨hi0, ⟨old, he⟩, hit, hne⟩ := st
    have hel : e < s.heap.objs.size := Heap.lt_size he
    have hitl : it < s.heap.objs.size := by obtain ⟨_, q, _⟩ := hit; exact Heap.lt_size q
    have hh : X.A.in1.handled = none := by simp [I.ok.hd hc]
    refine wpAny_pyNext_enum_itemD (Draws.text hh it x t) he hit hg hne (by simp; exact hne) fun u h' tk hu ho hst hT hsz hk => ?_
    obtain ⟨c, tu, hc', rfl⟩ := hu
    refine ⟨_, rfl, wpAny_letOwnedTupleGo_enum (s := { s with heap := h', toks := tk + 1 }) ho fun h'' he' sb => ?_⟩
    have hT2 : h''.get? s.heap.objs.size = some { cls := .type "tuple", data := .seq #[.int i tk, .str ⟨#[c]⟩ tu] } := (sb.2 _ (Nat.ne_of_gt hel)).trans hT
    have new : ObjOk X.prog X.w (upd H s.heap.objs.size (.tup [.int (i : Nat), .str ⟨#[c]⟩])) h'' s.heap.objs.size (.tup [.int (i : Nat), .str ⟨#[c]⟩]) :=
      ⟨by show 2 ≤ sizeLine; decide, [.int i tk, .str ⟨#[c]⟩ tu], .cons ⟨_, rfl⟩ (.cons ⟨_, rfl⟩ .nil), ⟨_, hT2, rfl, _, rfl⟩⟩
    have I1 : Inv X pins σ (upd H s.heap.objs.size (.tup [.int (i : Nat), .str ⟨#[c]⟩])) { s with heap := h'', toks := tk + 1 } :=
      I.turnedNew (ch := [e, it]) (fun b ob hb q => (sb.2 b (fun z => hb (by simp [z]))).trans (hk b ob (fun z => hb (by simp [z])) (fun z => hb (by simp [z])) q)) hf (Nat.le_refl _) new
    refine ⟨.ref s.heap.objs.size, _, I1, rfl, ⟨_, c, rfl, I.hok.fresh (Nat.le_refl _), rfl, hc'⟩, ⟨hg, ⟨.str ⟨#[c]⟩ tu, ?_⟩, ?_, hne⟩, fun b hb => ?_⟩
    · have e1 : ((i + 1 : Nat) : Int) = (i : Int) + 1 := by omega
      rw [e1]; exact he'
    · obtain ⟨o, ho2, hr⟩ := hst
      exact ⟨o, (sb.2 it (Ne.symm hne)).trans ho2, hr⟩
    · have hb' : b < s.heap.objs.size := by
        have e' : b = e ∨ b = it := by simpa using hb
        rcases e' with z | z
        · rw [z]; exact hel
        · rw [z]; exact hitl
      rw [upd_ne (Nat.ne_of_lt hb')]
      exact (hf b hb).1
  done := by
    intro X hP hw hK hc i pins s σ H E I hf st hg
    subst hP hw hK
    obtain ⟨hi0, ⟨old, he⟩, hit, hne⟩ := st
    obtain ⟨f0, f1, f2, f3, f4, f5⟩ := hf it (by simp)
    have hh : X.A.in1.handled = none := by simp [I.ok.hd hc]
    have hin : i = x.cps.size := Nat.le_antisymm hi0 hg
    exact wpAny_pyNext_enum_endD (Draws.text hh it x t) he (by rw [← hin]; exact hit) fun h' eb => ⟨rfl, I.turned (t' := s.toks) (fun b o hb q => eb b o hb q) f0 f1 f3 f4 f5⟩
  self := fun A i s Q E st h => let ⟨_, ⟨_, he⟩, _⟩ := st; wpAny_pyIter_enum he h
def iEnumV (K : PySem.W.Frag) (ta : TA) : TI := fun σ H R => ta σ H fun vs H1 => (∃ a xs, vs = [.ref a] ∧ SqT K H1 a xs ∧ R (IteT K a xs) H1) ∨ ∃ x, vs = [.str x] ∧ R (IteS x) H1
theorem pi_enumV {X : Cx} {e : Expr} {ta : TA} {p pos tpos : Pos} {elts : List Expr} {kk : Nat} (hg : Gl X "enumerate") (hm : X.mg "enumerate" = none) (ha : PA X [e] ta) (hs : starEach [e] X.env = [(false, eval e X.env)] := by rfl) :
    PI X (.Tuple elts kk tpos) (.Call (.Name "enumerate" p) [e] [] pos) (iEnumV X.K ta) := by
  refine ⟨fun pins s σ H R I h => ?_⟩
  refine Call_ (ld_blt I hg hm boot_enumerate (PyProof.Rows.callWith_type1 (thn (ha.run pos pins s σ H _ I h) fun us s1 ⟨vs, H1, I1, r1, q1⟩ => ?_) hs rfl))
  have fpk : ∀ b ∈ [s1.heap.objs.size + 1, s1.heap.objs.size], FpOk X pins H1 b := fun b hb => by
    have e' : b = s1.heap.objs.size + 1 ∨ b = s1.heap.objs.size := by simpa using hb
    have hle : s1.heap.objs.size ≤ b := by
      rcases e' with z | z
      · rw [z]; exact Nat.le_add_right _ _
      · rw [z]; exact Nat.le_refl _
    exact I1.fpOk hle (I1.hok.fresh hle)
  rcases q1 with ⟨a, xs, ex, hq, q⟩ | ⟨x, ex, q⟩
  · subst ex
    cases r1 with
    | cons r rr =>
      cases rr
      cases r
      obtain ⟨its, rv, p', hz⟩ := I1.tuple hq
      have hal : a < s1.heap.objs.size := by obtain ⟨_, q, _⟩ := p'; exact Heap.lt_size q
      refine enum_call (begins_tuple a its.toArray) p' fun h' he hit hk => wpAny_pyIter_enum he ?_
      have I2 : Inv X pins σ H1 { s1 with heap := h' } := I1.kept (t' := s1.toks) hk
      exact ⟨s1.heap.objs.size + 1, [s1.heap.objs.size + 1, s1.heap.objs.size], _, _, H1, rfl, I2, turn_enumT a (s1.heap.objs.size + 1) s1.heap.objs.size xs, ⟨Nat.zero_le _, ⟨.none, he⟩, ⟨_, hit, rfl, rfl⟩, Nat.succ_ne_self _, Nat.ne_of_lt hal, Nat.ne_of_lt (Nat.lt_succ_of_lt hal)⟩, fpk, q⟩
  · subst ex
    cases r1 with
    | cons r rr =>
      cases rr
      obtain ⟨t, rfl⟩ := r
      refine enum_call (begins_text x t) trivial fun h' he hit hk => wpAny_pyIter_enum he ?_
      have I2 : Inv X pins σ H1 { s1 with heap := h' } := I1.kept (t' := s1.toks) hk
      exact ⟨s1.heap.objs.size + 1, [s1.heap.objs.size + 1, s1.heap.objs.size], _, _, H1, rfl, I2, turn_enumS (s1.heap.objs.size + 1) s1.heap.objs.size x t, ⟨Nat.zero_le _, ⟨.none, he⟩, ⟨_, hit, rfl, rfl⟩, Nat.succ_ne_self _⟩, fpk, q⟩
end DL
end
section
set_option maxHeartbeats 0
namespace DL
open PySem PySem.Spec PyProof.Rows L2
section
variable {X : Cx} {W : WX} {a : Expr} {fa : WE} {pos p : Pos}
def iEnumA (a : WE) : WI := fun r m K x => a r m (fun u m1 => match u with
  | .tup xs => K (enumD 0 xs) (fun _ => True) m1
  | .str s => K (enumD 0 (s.cps.toList.map fun c => D.str ⟨#[c]⟩)) (fun _ => True) m1
  | _ => False) x
theorem irp_enumT {K : PySem.W.Frag} {B : Hp} {a : Addr} {vs : List V} {ds : List D} (h1 : SqT K B a vs) (h2 : DpAll K B vs ds) : IRp K B (IteT K a vs) (enumD 0 ds) (fun _ => True) := by
  refine ⟨fun i B' H m hi s S g => ?_, fun B' H m s S g => ?_, fun i B' H m x H' hi s S g y => ?_⟩
  · rw [enumD_len] at hi
    exact ⟨by rw [h2.length]; exact hi, sqT_mono (s.trans S.same) h1⟩
  · rw [enumD_len, ← h2.length]
    exact ⟨Nat.le_refl _, sqT_mono (s.trans S.same) h1⟩
  · rw [enumD_len] at hi
    obtain ⟨T, x2, rfl, nT, eH, g2⟩ := y
    obtain ⟨v', z1, z2⟩ := h2.get (List.getElem?_eq_getElem hi)
    rw [g2] at z1
    cases z1
    obtain ⟨B2, q1, q2, q3, q4⟩ := pair_yield S nT eH (.int (i : Nat)) (z2.mono s)
    exact ⟨B2, _, by rw [enumD_get, List.getElem?_eq_getElem hi]; simp, q1, q2, q3, q4⟩
theorem irp_enumS {K : PySem.W.Frag} {B : Hp} {z : Str} : IRp K B (IteS z) (enumD 0 (z.cps.toList.map fun c => D.str ⟨#[c]⟩)) (fun _ => True) := by
  have e : (enumD 0 (z.cps.toList.map fun c => D.str ⟨#[c]⟩)).length = z.cps.size := by rw [enumD_len]; simp
  refine ⟨fun i B' H m hi s S g => by rw [e] at hi; exact hi, fun B' H m s S g => by rw [e]; exact Nat.le_refl _, fun i B' H m x H' hi s S g y => ?_⟩
  obtain ⟨T, c, rfl, nT, eH, hc⟩ := y
  obtain ⟨B2, q1, q2, q3, q4⟩ := pair_yield S nT eH (.int (i : Nat)) (.str ⟨#[c]⟩)
  refine ⟨B2, _, ?_, q1, q2, q3, q4⟩
  rw [enumD_get, List.getElem?_map, Array.getElem?_toList, hc]; simp
theorem pid_enumA {elts : List Expr} {kk : Nat} {tpos : Pos} (hg : Gl X "enumerate") (hm : X.mg "enumerate" = none) (ha : PE X a (up X.K W fa)) (hs : starEach [a] X.env = [(false, eval a X.env)] := by rfl) : PI X (.Tuple elts kk tpos) (.Call (.Name "enumerate" p) [a] [] pos) (upI X.K W (iEnumA fa)) := PI.imp (pi_enumV hg hm (pa_cons ha pa_nil hs) hs) fun σ H R ⟨B, r, m, R', x, er, S, h, t, tx⟩ => by
  refine ⟨B, r, m, _, x, er, S, h, fun B1 d m1 u H1 s1 S1 f1 p1 q1 => ?_, tx⟩
  cases p1 with
  | tup h1 h2 => exact .inl ⟨_, _, rfl, sqT_mono S1.same h1, t B1 _ _ m1 H1 _ s1 S1 f1 (irp_enumT h1 h2) q1⟩
  | str z => exact .inr ⟨z, rfl, t B1 _ _ m1 H1 _ s1 S1 f1 irp_enumS q1⟩
  | _ => exact q1.elim
end
end DL
end
section
set_option maxHeartbeats 0
namespace DL
open PySem
def mkB (k : Mk) : D := .tup [.int k.row, .int k.place, ch k.sign, colD k.red]
def marksS (c : Int) (dead : List Nat) (dn : Int) (ks : List Ky) : List Mk := sortM (runL (newS c dead dn) ks).1.marks
def ph_marks_of (A : Ad) : FW := fun ds m R _ => ∃ (c : Int) (dead : List Nat) (dn : Int) (ks : List Ky), ds = [machD c dead dn, .tup (ks.map kyD)] ∧ MOk c dead dn ∧ (∀ k ∈ ks, kyOk k) ∧ ks.length ≤ 4000 ∧ R (.lst ((marksS c dead dn ks).map mkD)) m
def ph_strikes (A : Ad) : FW := fun ds m R x => ∃ dm dk, ds = [dm, dk] ∧ inBoth A m dm dk x fun c dead dn ks => R (.lst ((marksS c dead dn ks).map mkB)) m
end DL
end
section
set_option maxHeartbeats 0
namespace DL
open PySem PySem.Spec PyProof.Rows L2
def ItzLT (K : PySem.W.Frag) (a b : Addr) (xs ys : List V) : It :=
  ⟨fun i H => i < xs.length ∧ i < ys.length ∧ SqL K H a xs ∧ SqT K H b ys,
    fun i H v H' => ∃ T x y, v = .ref T ∧ H T = none ∧ H' = upd H T (.tup [x, y]) ∧ xs[i]? = some x ∧ ys[i]? = some y,
    fun i H => (xs.length ≤ i ∨ ys.length ≤ i) ∧ SqL K H a xs ∧ SqT K H b ys⟩
theorem turn_zipLT {P : Program} {w : World} {K : PySem.W.Frag} {elts : List Expr} {kk : Nat} {tpos : Pos} {a b z TI TO i1 i2 : Addr} (S : ZipSep2 z TI TO i1 i2 [i1, a] [i2, b]) (xs ys : List V) (ha : a ≠ i1) (hb : b ≠ i2) :
    Turn P w K (.Tuple elts kk tpos) (ItzLT K a b xs ys) [z, TI, TO, i1, i2] z (fun i h => i ≤ xs.length ∧ i ≤ ys.length ∧ IsZip h z TI TO .none ∧ IsTupOf2 h TI (.ref i1) (.ref i2) ∧ (∃ x y, IsTupOf2 h TO x y) ∧ h.IsListIter i1 a i ∧ h.IsTupleIter i2 b i) where
  mem := by simp
  obj := fun i h st c hc => by
    obtain ⟨_, _, hz, hTI, ⟨x, y, hTO⟩, ⟨o1, e1, _, d1⟩, ⟨o2, e2, _, d2⟩⟩ := st
    have e' : c = z ∨ c = TI ∨ c = TO ∨ c = i1 ∨ c = i2 := by simpa using hc
    rcases e' with q | q | q | q | q
    · rw [q]; exact ⟨_, hz, fun v q => nomatch q⟩
    · rw [q]; exact ⟨_, hTI, fun v q => nomatch q⟩
    · rw [q]; exact ⟨_, hTO, fun v q => nomatch q⟩
    · rw [q]; exact ⟨o1, e1, fun v q => by rw [d1] at q; cases q⟩
    · rw [q]; exact ⟨o2, e2, fun v q => by rw [d2] at q; cases q⟩
  keep := fun i h h' st k => by
    obtain ⟨l1, l2, hz, hTI, ⟨x, y, hTO⟩, h1, h2⟩ := st
    exact ⟨l1, l2, k z (by simp) _ hz, k TI (by simp) _ hTI, ⟨x, y, k TO (by simp) _ hTO⟩, h1.at fun o q => k i1 (by simp) o q, h2.at fun o q => k i2 (by simp) o q⟩
  item := by
    intro X hP hw hK hc i pins s σ H E I hf st hg
    subst hP hw hK
    obtain ⟨l1, l2, hz, hTI, ⟨x0, y0, hTO⟩, h1, h2⟩ := st
    obtain ⟨g1, g2, hqx, hqy⟩ := hg
    obtain ⟨its, rv, p, _⟩ := I.list hqx
    obtain ⟨its2, rv2, p2, _⟩ := I.tuple hqy
    have hzl : z < s.heap.objs.size := Heap.lt_size hz
    have hh : X.A.in1.handled = none := by simp [I.ok.hd hc]
    refine wpAny_pyNext_zipD2_item S (Draws.list hh i1 a ha its.toArray) (Draws.tuple hh i2 b hb its2.toArray) hz hTI hTO ⟨h1, p.isList⟩ ⟨h2, p2⟩ (by rw [List.size_toArray, ← rv.length]; exact g1) (by rw [List.size_toArray, ← rv2.length]; exact g2) fun u u2 h' tk hu hu2 z' TO' h1' h2' hT hsz hk => ?_
    obtain ⟨x, hx, ru⟩ : ∃ x, xs[i]? = some x ∧ RelV x u := by
      obtain ⟨u', q1, q2⟩ := rv.get (List.getElem?_eq_getElem g1)
      have : its[i]? = some u := by simpa using hu
      rw [this] at q1; cases q1
      exact ⟨xs[i], List.getElem?_eq_getElem g1, q2⟩
    obtain ⟨y, hy, ru2⟩ : ∃ y, ys[i]? = some y ∧ RelV y u2 := by
      obtain ⟨u', q1, q2⟩ := rv2.get (List.getElem?_eq_getElem g2)
      have : its2[i]? = some u2 := by simpa using hu2
      rw [this] at q1; cases q1
      exact ⟨ys[i], List.getElem?_eq_getElem g2, q2⟩
    refine ⟨_, rfl, wpAny_letOwnedTupleGo_zip (s := { s with heap := h', toks := tk }) z' fun h'' z'' sb => ?_⟩
    have hT2 : h''.get? s.heap.objs.size = some { cls := .type "tuple", data := .seq #[u, u2] } := (sb.2 _ (Nat.ne_of_gt hzl)).trans hT
    have new : ObjOk X.prog X.w (upd H s.heap.objs.size (.tup [x, y])) h'' s.heap.objs.size (.tup [x, y]) :=
      ⟨by show 2 ≤ sizeLine; decide, [u, u2], .cons ru (.cons ru2 .nil), ⟨_, hT2, rfl, _, rfl⟩⟩
    have I1 : Inv X pins σ (upd H s.heap.objs.size (.tup [x, y])) { s with heap := h'', toks := tk } :=
      I.turnedNew (t' := tk) (ch := [z, TI, TO, i1, i2]) (fun c o hb q => (sb.2 c (fun q' => hb (by simp [q']))).trans (hk c o (fun q' => hb (by simp [q'])) (fun q' => hb (by simp [q'])) (fun q' => hb (by simp [q'])) (fun q' => hb (by simp [q'])) q)) hf (Nat.le_refl _) new
    refine ⟨.ref s.heap.objs.size, _, I1, rfl, ⟨_, x, y, rfl, I.hok.fresh (Nat.le_refl _), rfl, hx, hy⟩, ⟨g1, g2, z'', ?_, ⟨u, u2, ?_⟩, ?_, ?_⟩, fun c hcm => ?_⟩
    · exact (sb.2 _ S.TIz).trans (hk _ _ S.TIz S.TITO S.TIi1 S.TIi2 hTI)
    · exact (sb.2 _ S.TOz).trans TO'
    · exact h1'.1.at fun o q => (sb.2 _ (Ne.symm S.zi1)).trans q
    · exact h2'.1.at fun o q => (sb.2 _ (Ne.symm S.zi2)).trans q
    · have hlt : c < s.heap.objs.size := by
        have e' : c = z ∨ c = TI ∨ c = TO ∨ c = i1 ∨ c = i2 := by simpa using hcm
        rcases e' with q | q | q | q | q
        · rw [q]; exact hzl
        · rw [q]; exact Heap.lt_size hTI
        · rw [q]; exact Heap.lt_size hTO
        · rw [q]; obtain ⟨_, e1, _⟩ := h1; exact Heap.lt_size e1
        · rw [q]; obtain ⟨_, e2, _⟩ := h2; exact Heap.lt_size e2
      rw [upd_ne (Nat.ne_of_lt hlt)]
      exact (hf c hcm).1
  done := by
    intro X hP hw hK hc i pins s σ H E I hf st hg
    subst hP hw hK
    obtain ⟨l1, l2, hz, hTI, ⟨x0, y0, hTO⟩, h1, h2⟩ := st
    obtain ⟨hend, hqx, hqy⟩ := hg
    obtain ⟨its, rv, p, _⟩ := I.list hqx
    obtain ⟨its2, rv2, p2, _⟩ := I.tuple hqy
    have e1 := rv.length
    have e2 := rv2.length
    have hh : X.A.in1.handled = none := by simp [I.ok.hd hc]
    refine wpAny_pyNext_zipD2_end S (Draws.list hh i1 a ha its.toArray) (Draws.tuple hh i2 b hb its2.toArray) hz hTI hTO ⟨h1, p.isList⟩ ⟨h2, p2⟩ (by simp; omega) (by simp; omega) (by simp; omega) fun h' tk hk => ⟨rfl, I.turnedL (t' := tk) (ch := [z, TI, TO, i1, i2]) (fun c o hb q =>
      hk c o (fun q' => hb (by simp [q'])) (fun q' => hb (by simp [q'])) (fun q' => hb (by simp [q'])) (fun q' => hb (by simp [q'])) q) hf⟩
  self := fun A i s Q E st h => wpAny_pyIter_zip st.2.2.1 h
theorem nmem2 {x y z : Addr} (h1 : x ≠ y) (h2 : x ≠ z) : x ∉ [y, z] := by simp [h1, h2]
theorem zsep (N a b : Nat) (la : a < N) (lb : b < N) : ZipSep2 (N + 4) (N + 2) (N + 3) N (N + 1) [N, a] [N + 1, b] := by
  have h0 : ∀ i j : Nat, i ≠ j → N + i ≠ N + j := fun i j h e => h (Nat.add_left_cancel e)
  have h1 : ∀ i : Nat, N + i ≠ a := fun i => by omega
  have h2 : ∀ i : Nat, N + i ≠ b := fun i => by omega
  have h3 : ∀ i : Nat, i ≠ 0 → N + i ≠ N := fun i h => by omega
  exact ⟨h0 2 4 (by decide), h0 3 4 (by decide), h0 2 3 (by decide), h3 2 (by decide), by simp, nmem2 (h3 4 (by decide)) (h1 4), nmem2 (h3 3 (by decide)) (h1 3), h0 2 1 (by decide), by simp, nmem2 (h0 4 1 (by decide)) (h2 4), nmem2 (h0 3 1 (by decide)) (h2 3), nmem2 (Ne.symm (h3 1 (by decide))) (h2 0), nmem2 (h3 1 (by decide)) (h1 1)⟩
def iZipLT (K : PySem.W.Frag) (ta : TA) : TI := fun σ H R => ta σ H fun vs H1 => ∃ a b xs ys, vs = [.ref a, .ref b] ∧ SqL K H1 a xs ∧ SqT K H1 b ys ∧ R (ItzLT K a b xs ys) H1
theorem pi_zipLT {X : Cx} {e e2 : Expr} {ta : TA} {p pos tpos : Pos} {elts : List Expr} {kk : Nat} (hg : Gl X "zip") (hm : X.mg "zip" = none) (ha : PA X [e, e2] ta)
    (hs : starEach [e, e2] X.env = (false, eval e X.env) :: starEach [e2] X.env := by rfl) (hpl : (backTo pos (starEach [e2] X.env)).any (·.1) = false := by rfl) :
    PI X (.Tuple elts kk tpos) (.Call (.Name "zip" p) [e, e2] [] pos) (iZipLT X.K ta) := by
  refine ⟨fun pins s σ H R I h => ?_⟩
  refine Call_ (ld_blt I hg hm PyProof.Rows.boot_zip (PyProof.Rows.callWith_type1 (thn (ha.run pos pins s σ H _ I h) fun us s1 ⟨vs, H1, I1, r1, q1⟩ => ?_) hs hpl))
  obtain ⟨a, b, xs, ys, ex, hqx, hqy, q⟩ := q1
  subst ex
  cases r1 with
  | cons r rr =>
    cases rr with
    | cons r' rr =>
      cases rr
      cases r
      cases r'
      have fresh5 : ∀ c, c ∈ [s1.heap.objs.size + 4, s1.heap.objs.size + 2, s1.heap.objs.size + 3, s1.heap.objs.size, s1.heap.objs.size + 1] → FpOk X pins H1 c := fun c hcm => by
        have e' : c = s1.heap.objs.size + 4 ∨ c = s1.heap.objs.size + 2 ∨ c = s1.heap.objs.size + 3 ∨ c = s1.heap.objs.size ∨ c = s1.heap.objs.size + 1 := by simpa using hcm
        have hle : s1.heap.objs.size ≤ c := by
          rcases e' with z | z | z | z | z
          · rw [z]; exact Nat.le_add_right _ _
          · rw [z]; exact Nat.le_add_right _ _
          · rw [z]; exact Nat.le_add_right _ _
          · rw [z]; exact Nat.le_refl _
          · rw [z]; exact Nat.le_add_right _ _
        exact I1.fpOk hle (I1.hok.fresh hle)
      obtain ⟨its, rv, p1, _⟩ := I1.list hqx
      obtain ⟨its2, rv2, p2, _⟩ := I1.tuple hqy
      obtain ⟨o2, ho2, _⟩ := id p2
      have la : a < s1.heap.objs.size := p1.lt
      have lb : b < s1.heap.objs.size := Heap.lt_size ho2
      refine zip_begins2 (begins_list a its.toArray) (begins_tuple b its2.toArray) p1.isList p2 fun h' hz hTI hTO h1 h2 hsz hk => wpAny_pyIter_zip hz ?_
      have I2 : Inv X pins σ H1 { s1 with heap := h' } := I1.kept (t' := s1.toks) hk
      generalize s1.heap.objs.size = N at *
      have S := zsep N a b la lb
      exact ⟨N + 4, [N + 4, N + 2, N + 3, N, N + 1], _, _, H1, rfl, I2, turn_zipLT S xs ys (Nat.ne_of_lt la) (Nat.ne_of_lt (Nat.lt_succ_of_lt lb)), ⟨Nat.zero_le _, Nat.zero_le _, hz, hTI, ⟨_, _, hTO⟩, ⟨_, h1, rfl, rfl⟩, ⟨_, h2, rfl, rfl⟩⟩, fresh5, q⟩
section
variable {X : Cx} {W : WX} {a b : Expr} {fa fb : WE} {pos p : Pos}
def iZipM (a b : WE) : WI := fun r m K x => a r m (fun u m1 => b r m1 (fun v m2 => match u, v with
  | .lst xs, .tup ys => K (zipD xs ys) (fun _ => True) m2
  | _, _ => False) x) x
theorem walk_zipLT {K : PySem.W.Frag} {a b : Addr} {xs ys : List V} : Walk (ItzLT K a b xs ys) (min xs.length ys.length) (fun H => SqL K H a xs ∧ SqT K H b ys) (YPair (fun i => xs[i]?) (fun i => ys[i]?)) := by
  refine ⟨fun i _ hi q => ⟨by omega, by omega, q.1, q.2⟩, fun _ q => ⟨by omega, q.1, q.2⟩, fun i H v H' _ q y => ?_⟩
  obtain ⟨T, x, z, h1, h2, h3, h4, h5⟩ := y
  exact ⟨T, x, z, h1, h2, h3, h4, h5⟩
theorem pid_zipM {elts : List Expr} {kk : Nat} {tpos : Pos} (hg : Gl X "zip") (hm : X.mg "zip" = none) (ha : PE X a (up X.K W fa)) (hb : PE X b (up X.K W fb)) (hs : starEach [a, b] X.env = (false, eval a X.env) :: starEach [b] X.env := by rfl) (hs2 : starEach [b] X.env = [(false, eval b X.env)] := by rfl) (hpl : (backTo pos (starEach [b] X.env)).any (·.1) = false := by rfl) :
    PI X (.Tuple elts kk tpos) (.Call (.Name "zip" p) [a, b] [] pos) (upI X.K W (iZipM fa fb)) := PI.imp (pi_zipLT hg hm (pa_cons ha (pa_cons hb pa_nil hs2) hs) hs hpl) fun σ H R ⟨B, r, m, R', x, er, S, h, t, tx⟩ => by
  refine ⟨B, r, m, _, x, er, S, h, fun B1 d m1 u H1 s1 S1 f1 p1 q1 => ?_, tx⟩
  refine ⟨B1, r, m1, _, x, er.mono s1, S1, q1, fun B2 e m2 v H2 s2 S2 f2 p2 q2 => ?_, tx.step s1 f1⟩
  have p1 := p1.mono s2
  cases p1 with
  | lst h1 h2 => cases p2 with
    | tup h3 h4 => exact ⟨_, _, _, _, rfl, .inl (.inl (S2.same _ _ h1)), sqT_mono S2.same h3, t B2 _ _ m2 H2 _ (s1.trans s2) S2 (f1.trans f2) (irp_zip walk_zipLT h2 h4 fun B' H m s S => ⟨.inl (.inl (S.same _ _ (s _ _ h1))), sqT_mono (s.trans S.same) h3⟩) q2⟩
    | _ => exact q2.elim
  | _ => exfalso; cases p2 <;> exact q2
def iEnumU (a : WE) : WI := fun r m K x => iEnumL a r m K x ∨ iEnumA a r m K x
theorem pid_enumU {elts : List Expr} {kk : Nat} {tpos : Pos} (hg : Gl X "enumerate") (hm : X.mg "enumerate" = none) (ha : PE X a (up X.K W fa)) (hs : starEach [a] X.env = [(false, eval a X.env)] := by rfl) : PI X (.Tuple elts kk tpos) (.Call (.Name "enumerate" p) [a] [] pos) (upI X.K W (iEnumU fa)) := by
  have p1 := pid_enum (elts := elts) (kk := kk) (tpos := tpos) (p := p) (pos := pos) hg hm ha hs
  have p2 := pid_enumA (elts := elts) (kk := kk) (tpos := tpos) (p := p) (pos := pos) hg hm ha hs
  refine ⟨fun pins s σ H R I h => ?_⟩
  obtain ⟨B, r, m, R', x, er, S, h, t, tx⟩ := h
  rcases h with h | h
  · exact p1.run pins s σ H R I ⟨B, r, m, R', x, er, S, h, t, tx⟩
  · exact p2.run pins s σ H R I ⟨B, r, m, R', x, er, S, h, t, tx⟩
end
end DL
end
section
set_option maxHeartbeats 0
namespace DL
open PySem
def wdsD (ws : List (List Nat)) : List D := ws.map fun cs => D.str ⟨cs.toArray⟩
def wordsB (dead : List Nat) (lo hi : Int) (d : D) : Bool := match d with
  | .tup xs => decide (lo ≤ (xs.length : Int)) && decide ((xs.length : Int) ≤ hi) && xs.all fun w => lineB dead w ⟨#[]⟩
  | _ => false
def wArg (m : Store) (d : D) : Prop := (tyN m d).isSome = true ∧ ∀ xs, d = .tup xs → xs.length ≤ 1000 ∧ ∀ w ∈ xs, (∀ m', (tyN m' w).isSome = true) ∧ ∀ t, w = .str t → t.length ≤ 1000
def ph_need_words (A : Ad) : FW := fun ds m R x => ∃ c dead dn d lo hi, ds = [machD c dead dn, d, .int lo, .int hi] ∧ wArg m d ∧ if wordsB dead lo hi d = true then R .non m else x A.xNoText m
def gapW (room gaps : Int) (n : Nat) : Int := room / gaps + if (n : Int) < room % gaps then 1 else 0
def sumW (ws : List (List Nat)) : Int := ((ws.map fun w => (w.length : Int))).sum
def tailK (room gaps : Int) : Nat → List (List Nat) → List D
  | _, [] => []
  | n, w :: ws => onD (gapW room gaps n) ++ keysOf w ++ tailK room gaps (n + 1) ws
def spreadK (wide : Int) : List (List Nat) → List D
  | [] => []
  | w :: ws => keysOf w ++ tailK (wide - 2 * sumW (w :: ws)) (max 1 (ws.length : Int)) 0 ws
def ph_spread_keys (A : Ad) : FW := fun ds m R _ => ∃ (wide : Int) (d : D) (w : List Nat) (ws : List (List Nat)), ds = [.int wide, d] ∧ (d = .tup (wdsD (w :: ws)) ∨ ∃ a, d = .ref a ∧ m a = some (.lst (wdsD (w :: ws)))) ∧ (∀ u ∈ w :: ws, u.length ≤ 40) ∧ ws.length ≤ 40 ∧ 0 ≤ wide - 2 * sumW (w :: ws) ∧ wide ≤ 999 ∧ R (.lst (spreadK wide (w :: ws))) m
def csW (d : D) : List Nat := match d with
  | .str s => s.cps.toList
  | _ => []
def spreadO (c : Int) (dead : List Nat) (l r t : D) : Nat ⊕ List D :=
  if marB (2 * c) l r = true then
    if wordsB dead 2 12 t = true then
      match l, r, t with
      | .int a, .int b, .tup xs => if b - a < 2 * (sumW (xs.map csW) + (xs.length : Int)) - 2 then .inl 8 else .inr (spreadK (b - a) (xs.map csW))
      | _, _, _ => .inl 6
    else .inl 6
  else .inl 3
def ph_spread (A : Ad) : FW := fun ds m R x => ∃ (dm l r t : D), ds = [dm, l, r, t] ∧ inMach A m dm x fun c dead dn => (tyN m l).isSome = true ∧ (tyN m r).isSome = true ∧ wArg m t ∧
  match spreadO c dead l r t with
  | .inl k => ok A.cls[k]? fun C => x C m
  | .inr ks => R (.tup ks) m
end DL
end
section
set_option maxHeartbeats 0
namespace DL
open PySem
def psi_need_words (A : Ad) : WS := wSeq (wIfS (wOr (wNot (wTest (wCallB wIsi (wCons (wVar 1) (wCons (wC (.ty "tuple")) (wNil)))))) (wNot (wTest (wChain wLe wLe (wVar 2) (wCallB wLen (wCons (wVar 1) (wNil))) (wVar 3))))) (wRaise A.xNoText) (wNext)) (wIfS (wNot (wTest (wCallB wAll (wCons (wLc false [4] (iSeq (wVar 1)) (gNm 4) (wYes) (wCall 3 (ph_is_line A) (wCons (wVar 0) (wCons (wVar 4) (wCons (wC (.str (PySem.Str.ofString ""))) (wNil)))))) (wNil))))) (wRaise A.xNoText) (wNext))
def psi_spread_keys_t4 (A : Ad) : WS := wRet (wFrz (wVar 4))
def psi_spread_keys_t3 (A : Ad) : WS := wSeq (wFor (iEnumU (wSl (wCut false) (wVar 1) (oSome (wC (.int 1))) (oNone))) (gTp [5, 6]) (wExp (wMt "list" wExtend (wVar 4) (wCons (wOp (wAdd false) (wCall 1 (ph_on A) (wCons (wOp (wAdd false) (wOp wDiv (wVar 2) (wVar 3)) (wCallB wInt (wCons (wOp wLt (wVar 5) (wOp wMod (wVar 2) (wVar 3))) (wNil)))) (wNil))) (wFrz (wCall 1 (ph_keys_of A) (wCons (wVar 6) (wNil))))) (wNil))))) (psi_spread_keys_t4 A)
def psi_spread_keys_t2 (A : Ad) : WS := wSeq (wSet 4 (wCall 1 (ph_keys_of A) (wCons (wOp wIx (wVar 1) (wC (.int 0))) (wNil)))) (psi_spread_keys_t3 A)
def psi_spread_keys_t1 (A : Ad) : WS := wSeq (wSet 3 (wCallB wMax2 (wCons (wC (.int 1)) (wCons (wOp wSub (wCallB wLen (wCons (wVar 1) (wNil))) (wC (.int 1))) (wNil))))) (psi_spread_keys_t2 A)
def psi_spread_keys (A : Ad) : WS := wSeq (wSet 2 (wOp wSub (wVar 0) (wOp (wMul false) (wC (.int 2)) (wCallB wSum (wCons (wLc false [6] (iSeq (wVar 1)) (gNm 6) (wYes) (wCallB wLen (wCons (wVar 6) (wNil)))) (wNil)))))) (psi_spread_keys_t1 A)
def psi_spread_t4 (A : Ad) : WS := wRet (wCallB wTuple (wCons (wCall 2 (ph_spread_keys A) (wCons (wOp wSub (wVar 2) (wVar 1)) (wCons (wVar 3) (wNil)))) (wNil)))
def psi_spread_t3 (A : Ad) : WS := wSeq (wIfS (wTest (wOp wLt (wOp wSub (wVar 2) (wVar 1)) (wOp wSub (wOp (wMul false) (wC (.int 2)) (wCallB wSum (wCons (wLc false [4] (iSeq (wVar 3)) (gNm 4) (wYes) (wOp (wAdd false) (wCallB wLen (wCons (wVar 4) (wNil))) (wC (.int 1)))) (wNil)))) (wC (.int 2))))) (wRaise A.xTooWide) (wNext)) (psi_spread_t4 A)
def psi_spread_t2 (A : Ad) : WS := wSeq (wExp (wCall 4 (ph_need_words A) (wCons (wVar 0) (wCons (wVar 3) (wCons (wC (.int 2)) (wCons (wC (.int 12)) (wNil))))))) (psi_spread_t3 A)
def psi_spread_t1 (A : Ad) : WS := wSeq (wExp (wCall 3 (ph_need_margins A) (wCons (wVar 0) (wCons (wVar 1) (wCons (wVar 2) (wNil)))))) (psi_spread_t2 A)
def psi_spread (A : Ad) : WS := wSeq (wExp (wCall 1 (ph_need_machine A) (wCons (wVar 0) (wNil)))) (psi_spread_t1 A)
end DL
end
section
set_option maxHeartbeats 0
namespace DL
open PySem
theorem wds_len (ws : List (List Nat)) : (wdsD ws).length = ws.length := by simp [wdsD]
theorem gapW_le {room gaps : Int} (h0 : 0 ≤ room) (h1 : 1 ≤ gaps) (n : Nat) : 0 ≤ gapW room gaps n ∧ gapW room gaps n ≤ room + 1 := by
  have a1 : 0 ≤ room / gaps := Int.ediv_nonneg h0 (by omega)
  have a2 : room / gaps ≤ room := Int.ediv_le_self _ h0
  unfold gapW
  split <;> omega
theorem onD_le (n : Int) (h : n ≤ 1001) : (onD n).length ≤ 600 := by
  simp only [onD, List.length_append, List.length_replicate]
  omega
theorem at0 (d : D) (l : List D) : atL (d :: l) 0 = some d := by
  simp [atL, ixL]
theorem cut_tl (d : D) (l : List D) : cutL (d :: l) (some 1) none = l := by
  have h : min 1 (l.length + 1) = 1 := by omega
  have h2 : (1 : Int).toNat = 1 := rfl
  simp only [cutL, sIxD, List.length_cons, h2, h, if_neg (show ¬ (1 : Int) < 0 by decide)]
  simp
variable {A : Ad} (hA : AdOk A)
include hA
theorem dt_need_words : ∀ ds m R x, ph_need_words A ds m R x → psi_need_words A (startD 5 ds) m (endD R x) := by
  rintro ds m R x ⟨c, dead, dn, d, lo, hi, rfl, ⟨ht, hs⟩, h⟩
  have L : LIM = 16777216 := rfl
  simp [psi_need_words, wIsi]
  obtain ⟨n, hn⟩ := Option.isSome_iff_exists.mp ht
  refine ok_iff.mpr ⟨n, hn, ?_⟩
  by_cases hd : ∃ xs, d = .tup xs
  · obtain ⟨xs, rfl⟩ := hd
    obtain ⟨hl, hw⟩ := hs xs rfl
    simp [tyN] at hn
    subst hn
    simp [isiN, wLen, asQ, wLe]
    by_cases h1 : lo ≤ (xs.length : Int)
    · by_cases h2 : (xs.length : Int) ≤ hi
      · simp [h1, h2, asI]
        refine lc_pure (G := fun _ => True) (fun w => some (.bl (lineB dead w ⟨#[]⟩))) trivial xs [] _ (by simp; omega) (fun w hwm K1 K0 hK => ?_) ?_
        · simp
          exact ⟨_, _, _, _, _, rfl, (hw w hwm).1 m, fun t e => by have := (hw w hwm).2 t e; omega, by decide, hK⟩
        · have ef : xs.filterMap (fun w => some (D.bl (lineB dead w ⟨#[]⟩))) = xs.map fun w => D.bl (lineB dead w ⟨#[]⟩) := List.filterMap_eq_map ▸ rfl
          rw [List.nil_append, ef]
          have e : (xs.map fun w => D.bl (lineB dead w ⟨#[]⟩)) = (xs.map fun w => lineB dead w ⟨#[]⟩).map .bl := by simp
          show wAll [.lst (xs.map fun w => D.bl (lineB dead w ⟨#[]⟩))] m _
          rw [e]
          refine all_lst ?_
          simp only [wordsB, h1, h2, decide_true, Bool.true_and] at h
          have e2 : ((xs.map fun w => lineB dead w ⟨#[]⟩).all id) = xs.all fun w => lineB dead w ⟨#[]⟩ := by simp [List.all_map, Function.comp]
          rw [e2]
          cases hb : xs.all fun w => lineB dead w ⟨#[]⟩ with
          | false => rw [hb] at h; simpa using h
          | true => rw [hb] at h; simpa using h
      · simp [h1, h2]
        simpa [wordsB, h1, h2] using h
    · simp [h1]
      simpa [wordsB, h1] using h
  · have e : wordsB dead lo hi d = false := by
      cases d <;> simp [wordsB]
      exact absurd ⟨_, rfl⟩ hd
    have e2 : isiN n "tuple" = false := by
      have : n ≠ "tuple" := by
        rintro rfl
        cases d with
        | tup xs => exact hd ⟨_, rfl⟩
        | ref a =>
          simp [tyN] at hn
          cases e : m a with
          | none => simp [e] at hn
          | some o => cases o <;> simp [e] at hn
        | _ => simp [tyN] at hn
      simp [isiN, this]
    simp [e2]
    rw [e] at h
    simpa using h
theorem sk_loop {wide room gaps : Int} {d : D} {m : Store} {R : KD} {x : XD} {ws : List (List Nat)} {ka : Addr} {acc : List D} {v5 v6 : Option D} (h0 : 0 ≤ room) (h1 : room ≤ 999) (g1 : 1 ≤ gaps) (g2 : gaps ≤ 1000) (hw : ∀ u ∈ ws, u.length ≤ 40) (hl : ws.length ≤ 40) (hacc : acc.length ≤ 200) (nka : m ka = none) (h : R (.lst (acc ++ tailK room gaps 0 ws)) m) :
    wForL (fun _ => True) (gTp [5, 6]) (wExp (wMt "list" wExtend (wVar 4) (wCons (wOp (wAdd false) (wCall 1 (ph_on A) (wCons (wOp (wAdd false) (wOp wDiv (wVar 2) (wVar 3)) (wCallB wInt (wCons (wOp wLt (wVar 5) (wOp wMod (wVar 2) (wVar 3))) (wNil)))) (wNil))) (wFrz (wCall 1 (ph_keys_of A) (wCons (wVar 6) (wNil))))) (wNil)))) (enumD 0 (wdsD ws)) [some (.int wide), some d, some (.int room), some (.int gaps), some (.ref ka), v5, v6] (sup m ka (.lst acc)) { (endD R x) with nx := fun r m' => psi_spread_keys_t4 A r m' (endD R x) } := by
  have L : LIM = 16777216 := rfl
  refine for_inv (fun ds r m' => ∃ (n : Nat) (rest : List (List Nat)) (ac : List D) (w5 w6 : Option D), ds = enumD n (wdsD rest) ∧ (∀ u ∈ rest, u.length ≤ 40) ∧ n + rest.length = ws.length ∧ ac.length ≤ 200 + 800 * n ∧ ac ++ tailK room gaps n rest = acc ++ tailK room gaps 0 ws ∧ r = [some (.int wide), some d, some (.int room), some (.int gaps), some (.ref ka), w5, w6] ∧ m' = sup m ka (.lst ac)) _ _ _ ⟨0, ws, acc, v5, v6, rfl, hw, by simp, by omega, rfl, rfl, rfl⟩ ?_ ?_
  · rintro q ds r m' ⟨n, rest, ac, w5, w6, e1, hw', hn, ha, hc, rfl, rfl⟩ P hP
    cases rest with
    | nil => cases e1
    | cons w rest =>
      simp only [wdsD, List.map_cons, enumD, List.cons.injEq] at e1
      obtain ⟨rfl, rfl⟩ := e1
      refine ⟨trivial, ?_⟩
      have hwl : w.length ≤ 40 := hw' w List.mem_cons_self
      have hlen : n < 41 := by simp at hn; omega
      simp [tyM, sup_same, wDiv, wMod, wLt, wInt]
      refine ⟨⟨by omega, by omega⟩, by omega, ?_⟩
      have gw : (room / gaps + if (n : Int) < room % gaps then 1 else 0) = gapW room gaps n := rfl
      have hgw := gapW_le h0 g1 n
      simp only [wAdd]
      refine ⟨_, rfl, by rw [gw]; omega, by rw [gw]; omega, ?_⟩
      refine ⟨⟨w.toArray⟩, rfl, by simp [PySem.Str.length]; omega, fun kb nkb => ?_⟩
      refine ⟨kb, rfl, _, sup_same, ?_⟩
      rw [sdel_sup nkb, gw]
      have k1 := keysOf_len w
      have k2 := onD_le (gapW room gaps n) (by omega)
      refine ⟨_, _, rfl, rfl, by simp; omega, ?_⟩
      simp [wExtend, sup_same, asL, sup_sup]
      refine ⟨by omega, hP _ _ ⟨n + 1, rest, ac ++ (onD (gapW room gaps n) ++ keysOf w), _, _, rfl, fun u hu => hw' u (List.mem_cons_of_mem _ hu), by simp at hn; omega, by simp; omega, ?_, rfl, by simp⟩⟩
      rw [← hc]; simp [tailK]
  · rintro r m' ⟨n, rest, ac, w5, w6, e1, hw', hn, ha, hc, rfl, rfl⟩
    have e3 : rest = [] := by cases rest with | nil => rfl | cons a b => cases e1
    subst e3
    refine ⟨trivial, ?_⟩
    simp [psi_spread_keys_t4]
    refine ⟨_, sup_same, ?_⟩
    rw [sdel_sup nka]
    simp [tailK] at hc
    rw [hc]
    exact h
theorem dt_spread_keys : ∀ ds m R x, ph_spread_keys A ds m R x → psi_spread_keys A (startD 7 ds) m (endD R x) := by
  rintro ds m R x ⟨wide, d, w, ws, rfl, hd, hw, hl, h0, h1, h⟩
  have L : LIM = 16777216 := rfl
  have hs : 0 ≤ sumW (w :: ws) := by
    unfold sumW
    generalize w :: ws = us
    induction us with
    | nil => simp
    | cons u us ih => simp only [List.map_cons, List.sum_cons]; omega
  have hwl : w.length ≤ 40 := hw w List.mem_cons_self
  have hlc : ∀ (G : Store → Prop) (K : List D → Store → Prop), G m → K ((w :: ws).map fun u => D.int (u.length : Nat)) m → wLcL G [6] (gNm 6) wYes (wCallB wLen (wCons (wVar 6) wNil)) (some (.int wide) :: some d :: none :: none :: none :: none :: [none]) (wdsD (w :: ws)) [] m K := by
    intro G K hG hK
    refine lc_map (fun cs : List Nat => D.str ⟨cs.toArray⟩) (fun u => D.int (u.length : Nat)) hG (w :: ws) [] K (by simp; omega) (fun u hu K1 hK1 => ?_) (by simpa using hK)
    have := hw u hu
    simp [wLen, PySem.Str.length]
    exact ⟨by omega, hK1⟩
  have hsum : ∃ ns : List Int, ((w :: ws).map fun u => D.int (u.length : Nat)) = ns.map .int ∧ ns.sum = sumW (w :: ws) := ⟨(w :: ws).map fun u => ((u.length : Nat) : Int), by simp, rfl⟩
  obtain ⟨ns, en, es⟩ := hsum
  have e1 : cutL (wdsD (w :: ws)) (some 1) none = wdsD ws := by
    exact cut_tl _ _
  have eg : (if (((w :: ws).length : Nat) : Int) - 1 > 1 then (((w :: ws).length : Nat) : Int) - 1 else 1) = max 1 (ws.length : Int) := by
    simp only [List.length_cons]; split <;> omega
  have kl := keysOf_len w
  have fin : ∀ ka, m ka = none → wForL (fun _ => True) (gTp [5, 6]) (wExp (wMt "list" wExtend (wVar 4) (wCons (wOp (wAdd false) (wCall 1 (ph_on A) (wCons (wOp (wAdd false) (wOp wDiv (wVar 2) (wVar 3)) (wCallB wInt (wCons (wOp wLt (wVar 5) (wOp wMod (wVar 2) (wVar 3))) (wNil)))) (wNil))) (wFrz (wCall 1 (ph_keys_of A) (wCons (wVar 6) (wNil))))) (wNil)))) (enumD 0 (wdsD ws)) [some (.int wide), some d, some (.int (wide - 2 * sumW (w :: ws))), some (.int (max 1 (ws.length : Int))), some (.ref ka), none, none] (sup m ka (.lst (keysOf w))) { (endD R x) with nx := fun r m' => psi_spread_keys_t4 A r m' (endD R x) } := fun ka nka => sk_loop hA h0 (by omega) (by omega) (by omega) (fun u hu => hw u (List.mem_cons_of_mem _ hu)) hl (by omega) nka h
  rcases hd with rfl | ⟨a, rfl, ha⟩
  · simp only [psi_spread_keys, psi_spread_keys_t1, psi_spread_keys_t2, psi_spread_keys_t3, start0, List.map_cons, List.map_nil, List.length_cons, List.length_nil, List.cons_append, List.nil_append, s_seq, s_set, e_op, e_var, get0, getS, ok_some, e_c, e_callB, e_cons, e_nil, e_lc, e_seqI, asI]
    refine hlc _ _ trivial ?_
    simp only [e_nwF, wSum, asL, wSub, wMul]
    refine ⟨ns, by rw [en], ?_⟩
    rw [es]
    simp only [wLen, asQ, ok_some, wds_len, put0, putS, get0, getS, e_op, e_var, e_c, e_callB, e_cons, e_nil, wSub, wMax2, eg, wIx, e_call, e_sl, e_oSome, e_oNone, s_seq, s_set, s_for, wCut, e1, iEnumU, iEnumA, iEnumL]
    refine ⟨Or.inl (by omega), ok_iff.mpr ⟨D.str ⟨w.toArray⟩, at0 _ _, ?_⟩⟩
    refine ⟨rfl, ⟨w.toArray⟩, rfl, by simp [PySem.Str.length]; omega, fun ka nka => ?_⟩
    exact Or.inr (fin ka nka)
  · have hl := hlc (fun m' => m' a = some (.lst (wdsD (w :: ws))))
    simp only [psi_spread_keys, psi_spread_keys_t1, psi_spread_keys_t2, psi_spread_keys_t3, start0, List.map_cons, List.map_nil, List.length_cons, List.length_nil, List.cons_append, List.nil_append, s_seq, s_set, e_op, e_var, get0, getS, ok_some, e_c, e_callB, e_cons, e_nil, e_lc, e_seqI, asI, ha]
    refine hl _ ha ?_
    simp only [e_nwF, wSum, asL, wSub, wMul]
    refine ⟨ns, by rw [en], ?_⟩
    rw [es]
    simp only [wLen, asQ, asL, ha, ok_some, wds_len, put0, putS, get0, getS, e_op, e_var, e_c, e_callB, e_cons, e_nil, wSub, wMax2, eg, wIx, e_call, e_sl, e_oSome, e_oNone, s_seq, s_set, s_for]
    refine ⟨Or.inl (by omega), ok_iff.mpr ⟨D.str ⟨w.toArray⟩, at0 _ _, ?_⟩⟩
    refine ⟨rfl, ⟨w.toArray⟩, rfl, by simp [PySem.Str.length]; omega, fun ka nka => ?_⟩
    have hne : a ≠ ka := by rintro rfl; rw [nka] at ha; cases ha
    refine Or.inl ?_
    simp only [iEnumL, e_sl, e_oSome, e_oNone, put0, putS, e_var, get0, getS, ok_some, e_c, wCut, asL, sup_ne hne, ha, e1, e_nwF]
    exact fin ka nka
theorem dt_spread : ∀ ds m R x, ph_spread A ds m R x → psi_spread A (startD 5 ds) m (endD R x) := by
  rintro ds m R x ⟨dm, l, r, t, rfl, h⟩
  have L : LIM = 16777216 := rfl
  simp [psi_spread]
  refine ⟨dm, rfl, h.imp fun c dead dn e hM hR => ?_⟩
  subst e
  clear h
  obtain ⟨hl, hr, ht, h⟩ := hR
  simp [psi_spread_t1, psi_spread_t2]
  refine ⟨_, _, _, _, _, rfl, hM, hl, hr, ?_⟩
  cases h1 : marB (2 * c) l r with
  | false => simp [spreadO, h1, Ad.cls] at h ⊢; exact h
  | true =>
    simp only [if_true]
    refine ⟨_, _, _, _, _, _, rfl, ht, ?_⟩
    cases h2 : wordsB dead 2 12 t with
    | false => simp [spreadO, h1, h2, Ad.cls] at h ⊢; exact h
    | true =>
      obtain ⟨a, b, rfl, rfl, ha, hb, hab⟩ : ∃ a b, l = .int a ∧ r = .int b ∧ 0 ≤ a ∧ b ≤ 2 * c ∧ a < b := by
        cases l <;> cases r <;> simp [marB, wholeB] at h1
        rename_i a b
        exact ⟨a, b, rfl, rfl, h1.1.1.1, h1.1.2.2, h1.2⟩
      obtain ⟨ws, rfl, hn2, hn12, hw⟩ : ∃ ws : List (List Nat), t = .tup (wdsD ws) ∧ 2 ≤ ws.length ∧ ws.length ≤ 12 ∧ ∀ u ∈ ws, 1 ≤ u.length ∧ u.length ≤ 40 := by
        cases t <;> simp [wordsB] at h2
        rename_i xs
        obtain ⟨⟨g1, g2⟩, g3⟩ := h2
        have : ∀ xs : List D, (∀ w ∈ xs, lineB dead w ⟨#[]⟩ = true) → ∃ ws : List (List Nat), xs = wdsD ws ∧ ∀ u ∈ ws, 1 ≤ u.length ∧ u.length ≤ 40 := by
          intro xs
          induction xs with
          | nil => exact fun _ => ⟨[], rfl, by simp⟩
          | cons w xs ih =>
            intro hh
            obtain ⟨ws, rfl, hw⟩ := ih fun w hw => hh w (List.mem_cons_of_mem _ hw)
            have h3 := hh w List.mem_cons_self
            cases w <;> simp [lineB] at h3
            rename_i s
            have el : s.cps.toList.length = s.length := by simp [PySem.Str.length]
            refine ⟨s.cps.toList :: ws, by simp [wdsD], ?_⟩
            rintro u hu
            rcases List.mem_cons.mp hu with rfl | hu
            · omega
            · exact hw u hu
        obtain ⟨ws, rfl, hw⟩ := this xs g3
        rw [wds_len] at g1 g2
        exact ⟨ws, rfl, by omega, by omega, hw⟩
      have ec : (wdsD ws).map csW = ws := by simp [wdsD, csW, Function.comp_def]
      have hc := hM.hi
      simp only [spreadO, h1, h2, if_true, ec, wds_len] at h
      simp only [if_true, psi_spread_t3, s_seq, s_if, e_test, e_op, e_var, get0, getS, ok_some, wSub, wMul, wLt, e_c, e_callB, e_cons, e_nil, e_lc, e_seqI, asI]
      refine lc_map (fun cs : List Nat => D.str ⟨cs.toArray⟩) (fun u => D.int ((u.length : Nat) + 1)) trivial ws [] _ (by simp; omega) (fun u hu K1 hK1 => ?_) ?_
      · have := hw u hu
        simp [wLen, PySem.Str.length, wAdd]
        exact ⟨by omega, hK1⟩
      · simp only [List.nil_append, e_nwF, wSum, asL]
        refine ⟨ws.map fun u => ((u.length : Nat) : Int) + 1, by simp, ?_⟩
        have es : (ws.map fun u => ((u.length : Nat) : Int) + 1).sum = sumW ws + (ws.length : Int) := by
          unfold sumW
          clear h hw hn2 hn12 ht h2 ec
          induction ws with
          | nil => simp
          | cons u us ih => simp only [List.map_cons, List.sum_cons, List.length_cons, ih]; omega
        rw [es]
        refine ⟨Or.inl (by omega), ?_⟩
        by_cases h3 : b - a < 2 * (sumW ws + (ws.length : Int)) - 2
        · simp [h3, Ad.cls] at h ⊢
          exact h
        · simp only [h3, if_false, decide_false, Bool.false_eq_true] at h ⊢
          cases ws with
          | nil => simp at hn2
          | cons w ws =>
            simp only [List.length_cons] at hn2 hn12 h3
            simp [psi_spread_t4, wSub]
            refine ⟨b - a, _, w, ws, rfl, Or.inl rfl, fun u hu => (hw u hu).2, by omega, by omega, by omega, ?_⟩
            simp [wTuple, asQ, asL]
            exact h
end DL
end
section
set_option maxHeartbeats 0
namespace DL
open PySem
def psi__law_marks (A : Ad) : WS := wSeq (wSet 1 (wCallB (wSortD false) (wCons (wLc false [2] (iSeq (wOp wDGet (wVar 0) (wC (.str (PySem.Str.ofString "marks"))))) (gNm 2) (wYes) (wTup (wCons (wOp wIx (wVar 2) (wC (.int 1))) (wCons (wOp wIx (wVar 2) (wC (.int 2))) (wCons (wOp wIx (wVar 2) (wC (.int 0))) (wCons (wVar 2) (wNil))))))) (wNil)))) (wRet (wLc false [3, 4, 5, 2] (iSeq (wVar 1)) (gTp [3, 4, 5, 2]) (wYes) (wVar 2)))
end DL
end
section
set_option maxHeartbeats 0
namespace DL
open PySem
theorem sort_uniq {α : Type} {le : α → α → Prop} : ∀ {l m : List α}, (∀ x ∈ l, ∀ y ∈ l, le x y → le y x → x = y) → l.Pairwise le → m.Pairwise le → l.Perm m → l = m
  | [], m, _, _, _, h => (List.Perm.eq_nil h.symm).symm
  | x :: l, [], _, _, _, h => absurd h.length_eq (by simp)
  | x :: l, y :: m, ha, hl, hm, h => by
    obtain ⟨l1, l2⟩ := List.pairwise_cons.mp hl
    obtain ⟨m1, m2⟩ := List.pairwise_cons.mp hm
    have e : x = y := by
      rcases List.mem_cons.mp (h.mem_iff.mp (List.mem_cons_self (a := x) (l := l))) with e | hx
      · exact e
      · rcases List.mem_cons.mp (h.mem_iff.mpr (List.mem_cons_self (a := y) (l := m))) with e | hy
        · exact e.symm
        · exact ha x List.mem_cons_self y (List.mem_cons_of_mem _ hy) (l1 y hy) (m1 x hx)
    subst e
    rw [sort_uniq (fun a h1 b h2 => ha a (List.mem_cons_of_mem _ h1) b (List.mem_cons_of_mem _ h2)) l2 m2 h.cons_inv]
theorem mkLt_iff {a b : Mk} : mkLt a b = true ↔ a.row < b.row ∨ (a.row = b.row ∧ (a.place < b.place ∨ (a.place = b.place ∧ a.n < b.n))) := by
  simp [mkLt]
theorem mkLt_no {a b : Mk} : mkLt a b = false ↔ ¬ (a.row < b.row ∨ (a.row = b.row ∧ (a.place < b.place ∨ (a.place = b.place ∧ a.n < b.n)))) := by
  rw [← mkLt_iff]; simp
theorem n_inj {ms : List Mk} (h : ms.Pairwise (fun a b => a.n < b.n)) : ∀ a ∈ ms, ∀ b ∈ ms, a.n = b.n → a = b := by
  induction ms with
  | nil => intro a ha; simp at ha
  | cons x l ih =>
    obtain ⟨h1, h2⟩ := List.pairwise_cons.mp h
    intro a ha b hb e
    rcases List.mem_cons.mp ha with z | z <;> rcases List.mem_cons.mp hb with y | y
    · rw [z, y]
    · subst z; have := h1 b y; omega
    · subst y; have := h1 a z; omega
    · exact ih h2 a z b y e
theorem sortM_perm (ms : List Mk) : (sortM ms).Perm ms := List.mergeSort_perm _ _
theorem sortM_le (ms : List Mk) : (sortM ms).Pairwise (fun a b => mkLt b a = false) := by
  have h := List.pairwise_mergeSort (le := fun a b : Mk => !mkLt b a) (fun a b c h1 h2 => ?_) (fun a b => ?_) ms
  · exact h.imp fun h => by simpa using h
  · simp only [Bool.not_eq_true'] at h1 h2 ⊢
    rw [mkLt_no] at h1 h2 ⊢
    omega
  · rw [Bool.or_eq_true]
    simp only [Bool.not_eq_true']
    rw [mkLt_no, mkLt_no]
    omega
theorem sortM_is {ms ys : List Mk} (hn : ms.Pairwise (fun a b => a.n < b.n)) (hp : ys.Perm ms) (hs : ys.Pairwise (fun a b => mkLt b a = false)) : ys = sortM ms := by
  refine sort_uniq (le := fun a b => mkLt b a = false) (fun x hx y hy h1 h2 => ?_) hs (sortM_le ms) (hp.trans (sortM_perm ms).symm)
  rw [mkLt_no] at h1 h2
  exact n_inj hn x (hp.mem_iff.mp hx) y (hp.mem_iff.mp hy) (by omega)
theorem sortM_id {ms : List Mk} (hn : ms.Pairwise (fun a b => a.n < b.n)) (hs : ms.Pairwise (fun a b => mkLt b a = false)) : sortM ms = ms := (sortM_is hn (.refl _) hs).symm
theorem key_lt {f : Mk → D} {k : Nat} {ms : List Mk} (hn : ms.Pairwise (fun a b => a.n < b.n)) (hok : ∀ a ∈ ms, dOk (f a) k = true) (hal : ∀ a ∈ ms, ∀ b ∈ ms, alikeD (f a) (f b) = true) : ∀ a ∈ ms, ∀ b ∈ ms, ltD (.tup [.int a.row, .int a.place, .int a.n, f a]) (.tup [.int b.row, .int b.place, .int b.n, f b]) = mkLt a b := by
  intro a ha b hb
  have i1 : ∀ i : Int, dOk (.int i) 0 = true := fun _ => rfl
  have e1 : ∀ i j : Int, eqD (.int i) (.int j) = decide (i = j) := fun _ _ => by simp [eqD]
  rw [ltD_cons (alikeD_int _ _) (i1 _) (i1 _), ltD_cons (alikeD_int _ _) (i1 _) (i1 _), ltD_cons (alikeD_int _ _) (i1 _) (i1 _), ltD_cons (hal a ha b hb) (hok a ha) (hok b hb)]
  simp only [e1, decide_eq_true_eq, ltD_int]
  rw [Bool.eq_iff_iff, mkLt_iff]
  by_cases h1 : a.row = b.row
  · rw [if_pos h1]
    by_cases h2 : a.place = b.place
    · rw [if_pos h2]
      by_cases h3 : a.n = b.n
      · have := n_inj hn a ha b hb h3
        subst this
        rw [if_pos rfl, eqD_refl _ _ (hok a ha), if_pos rfl, ltD_nil]
        simp
      · rw [if_neg h3]; simp; omega
    · rw [if_neg h2]; simp; omega
  · rw [if_neg h1]; simp; omega
theorem mk_alike (a b : Mk) : alikeD (mkD a) (mkD b) = true := by
  have : ∀ x y : Bool, alikeD (colD x) (colD y) = true := fun x y => by cases x <;> cases y <;> rfl
  simp [mkD, alikeD_cons, alikeD_int, alikeD_str, alikeD_nil, this]
variable {A : Ad} (hA : AdOk A)
include hA
theorem dt__law_marks : ∀ ds m R x, ph__law_marks A ds m R x → psi__law_marks A (startD 6 ds) m (endD R x) := by
  rintro ds m R x ⟨w, m0, s, rfl, ⟨ta, ma, ra, W⟩, hn, hg, hl, h⟩
  have L : LIM = 16777216 := rfl
  simp [psi__law_marks, gt_marks W.hw, asI, W.hm]
  refine lc_map (G := fun m' => m' ma = some (.lst (s.marks.map mkD))) mkD (fun k => .tup [.int k.row, .int k.place, .int k.n, mkD k]) W.hm s.marks [] _ (by simp; omega) (fun k hk K1 hK => ?_) ?_
  · have i1 : ∀ K : KD, wIx (mkD k) (.int 1) m K = K (.int k.row) m := fun _ => rfl
    have i2 : ∀ K : KD, wIx (mkD k) (.int 2) m K = K (.int k.place) m := fun _ => rfl
    have i0 : ∀ K : KD, wIx (mkD k) (.int 0) m K = K (.int k.n) m := fun _ => rfl
    simp [i1, i2, i0]
    exact ⟨by decide, hK⟩
  · rw [List.nil_append]
    have hk60 : ∀ k ∈ s.marks, dOk (mkD k) 58 = true := fun k hk => ok_mk k 57 (hg k hk)
    refine sort_by (fun k : Mk => D.tup [.int k.row, .int k.place, .int k.n, mkD k]) mkLt s.marks rfl (fun k hk => ?_) (fun a ha b hb => ?_) (.inl fun d hd => ?_) (fun a ha b hb => key_lt hn hk60 (fun a _ b _ => mk_alike a b) a ha b hb) fun ys hp hs => ?_
    · rw [dOk, dOks, dOks, dOks, dOks, hk60 k hk]; rfl
    · simp [alikeD_cons, alikeD_int, alikeD_nil, mk_alike]
    · obtain ⟨k, _, rfl⟩ := List.mem_map.mp hd; exact ⟨_, _, rfl⟩
    · have e := sortM_is hn hp hs
      subst e
      simp [asI]
      have hlen : (sortM s.marks).length = s.marks.length := (sortM_perm _).length_eq
      have key : ∀ (xs : List Mk) (acc : List D) (K : List D → Store → Prop) (v0 v1 : Option D), acc.length + xs.length ≤ LIM → K (acc ++ xs.map mkD) m → wLcL (fun _ => True) [3, 4, 5, 2] (gTp [3, 4, 5, 2]) wYes (wVar 2) [v0, v1, none, none, none, none] (xs.map fun k => D.tup [.int k.row, .int k.place, .int k.n, mkD k]) acc m K := by
        intro xs
        induction xs with
        | nil => intro acc K v0 v1 _ hK; exact ⟨trivial, by simpa using hK⟩
        | cons k xs ih =>
          intro acc K v0 v1 hl hK
          simp only [List.length_cons] at hl
          refine ⟨trivial, ?_⟩
          simp
          exact ⟨by omega, ih (acc ++ [mkD k]) K v0 v1 (by simp; omega) (by simpa using hK)⟩
      exact key (sortM s.marks) [] _ _ _ (by rw [hlen]; simp; omega) h
end DL
end
section
set_option maxHeartbeats 0
namespace DL
open PySem
def psi_marks_of (A : Ad) : WS := wSeq (wAsg (wCall 3 (ph_worked A) (wCons (wVar 0) (wCons (wTup (wNil)) (wCons (wVar 1) (wNil))))) (gTp [2, 3])) (wSeq (wSet 4 (wCallB (wSortD false) (wCons (wLc false [5] (iSeq (wFld A.cMachine "marks" (wVar 2))) (gNm 5) (wYes) (wTup (wCons (wOp wIx (wVar 5) (wC (.int 1))) (wCons (wOp wIx (wVar 5) (wC (.int 2))) (wCons (wOp wIx (wVar 5) (wC (.int 0))) (wCons (wSl (wCut false) (wVar 5) (oSome (wC (.int 1))) (oNone)) (wNil))))))) (wNil)))) (wRet (wFgt (wLc false [6, 7, 8, 5] (iSeq (wVar 4)) (gTp [6, 7, 8, 5]) (wYes) (wOp (wAdd false) (wTup (wCons (wVar 8) (wNil))) (wVar 5))))))
def psi_strikes (A : Ad) : WS := wSeq (wExp (wCall 2 (ph_need_both A) (wCons (wVar 0) (wCons (wVar 1) (wNil))))) (wRet (wLc false [2] (iSeq (wCall 2 (ph_marks_of A) (wCons (wVar 0) (wCons (wVar 1) (wNil))))) (gNm 2) (wYes) (wSl (wCut false) (wVar 2) (oSome (wC (.int 1))) (oNone))))
end DL
end
section
set_option maxHeartbeats 0
namespace DL
open PySem
theorem told_ok {s : LW} {k : Ky} {n : Nat} (hk : kyOk k) (hs : s.sm n) : dOk (pressL s k).2 20 = true := by
  have lk : dOk lockD 20 = true := by decide +kernel
  have dn : dOk doneD 20 = true := by decide +kernel
  have mv : ∀ r p : Int, dOk (movedD r p) 20 = true := fun r p => by
    simp only [movedD]; rw [dOk, dOks, ok_word "moved" 19 (by decide +kernel)]; rfl
  have nt : ∀ r p : Int, dOk (nothD r p) 20 = true := fun r p => by
    simp only [nothD]; rw [dOk, dOks, ok_word "nothing" 19 (by decide +kernel)]; rfl
  have st : ∀ (w : String) (k : Mk), okS (PySem.Str.ofString w) = true → k.sign < 128 → dOk (strikeD w k) 20 = true := fun w k hw h => by
    simp only [strikeD]; rw [dOk, dOks, dOks, dOks, dOks, dOks, dOks, ok_word w 19 hw, ok_ch k.sign 19 h, ok_col k.red 19]; rfl
  have ink : ∀ (b : Bool) (c : Nat), c < 128 → dOk (inkL s b c).2 20 = true := fun b c hc => by
    unfold inkL
    split
    · exact lk
    · show dOk (inkM s b c).2 20 = true
      unfold inkM
      split
      · exact st "struck" _ (by decide +kernel) (asL1_lt hc)
      · split
        · exact nt _ _
        · rename_i k e
          have hm : k ∈ likes s c := List.mem_of_getLast? e
          exact st "lifted" k (by decide +kernel) (hs.g k (List.mem_filter.mp hm).1)
  show dOk (actL s k).2 20 = true
  have on : ∀ q, dOk (onL s q).2 20 = true := fun q => by unfold onL; split; exact lk; exact mv _ _
  have rw_ : ∀ q b, dOk (rowL s q b).2 20 = true := fun q b => by unfold rowL; split; exact lk; split <;> exact mv _ _
  cases k with
  | sign c => exact ink true c hk
  | lift c => exact ink false c hk
  | blank => exact on _
  | half => exact on _
  | tab => exact on _
  | back => show dOk (stepL1 s .back).2 20 = true; simp only [stepL1]; split; exact lk; exact mv _ _
  | ret => exact rw_ _ _
  | up => exact rw_ _ _
  | down => exact rw_ _ _
  | left => show dOk (turnL s .left).2 20 = true; simp only [turnL]; split; exact dn; exact lk
  | right => show dOk (turnL s .right).2 20 = true; simp only [turnL]; split; exact dn; exact lk
  | clear => show dOk (turnL s .clear).2 20 = true; simp only [turnL]; split; exact dn; exact lk
  | _ => exact dn
theorem press_sm {s : LW} {k : Ky} {n : Nat} (hk : kyOk k) (hs : s.sm n) : (pressL s k).1.sm (n + 1) := let sm := act_sm hk hs; ⟨sm.t, sm.m, sm.r, sm.g⟩
theorem run_told : ∀ {ks : List Ky} {s : LW} {n : Nat}, (∀ k ∈ ks, kyOk k) → s.sm n → dOks (runL s ks).2 20 = true
  | [], s, n, _, _ => rfl
  | k :: ks, s, n, h, hs => by
    show dOks ((pressL s k).2 :: (runL (pressL s k).1 ks).2) 20 = true
    rw [dOks, told_ok (h k List.mem_cons_self) hs, run_told (fun k hk => h k (List.mem_cons_of_mem _ hk)) (press_sm (h k List.mem_cons_self) hs)]; rfl
theorem new_sm (c : Int) (dead : List Nat) (dn : Int) : (newS c dead dn).sm 0 := ⟨by simp [newS, newL], by simp [newS, newL], by simp [newS, newL], by simp [newS, newL]⟩
theorem run_len : ∀ (ks : List Ky) (s : LW), (runL s ks).2.length = ks.length
  | [], _ => rfl
  | k :: ks, s => by simp [runL, run_len ks]
theorem run_take : ∀ (n : Nat) (ks : List Ky) (s : LW), (runL s (ks.take n)).2 = (runL s ks).2.take n
  | 0, ks, s => by simp [runL]
  | n + 1, [], s => by simp [runL]
  | n + 1, k :: ks, s => by simp [runL, run_take n ks]
theorem doks_ups {xs : List D} : ∀ (k n : Nat), dOks xs n = true → dOks xs (n + k) = true
  | 0, n, h => h
  | k + 1, n, h => doks_up xs (n + k) (doks_ups k n h)
theorem ne_eq {d e : D} {m : Store} {R : KD} (h1 : rv m d = rv m e) (h2 : dOk (rv m e) 60 = true) (hs : ∀ s, rv m e ≠ .str s) (hi : ∀ i, rv m e ≠ .int i) (h : R (.bl false) m) : wNe d e m R := by
  have key : dOk (rv m d) 60 = true ∧ dOk (rv m e) 60 = true ∧ (fun u m' => match u with | .bl b => R (.bl (!b)) m' | _ => False) (D.bl (eqD (rv m d) (rv m e))) m := by
    refine ⟨by rw [h1]; exact h2, h2, ?_⟩
    rw [h1, eqD_refl _ _ h2]; exact h
  unfold wNe wEq
  split
  · exact absurd rfl (hs _)
  · exact absurd rfl (hi _)
  · exact key
theorem stand_ok (s : LW) : dOk (standD s) 60 = true := by
  have h : ∀ (ts : List Int) (n : Nat), dOks (ts.map D.int) n = true := fun ts n => by
    induction ts with
    | nil => rfl
    | cons a l ih => rw [List.map_cons, dOks, ih]; rfl
  have ht : dOk (.tup ((tabsS s.tabs).map .int)) 59 = true := by rw [dOk]; exact h _ _
  simp only [standD]
  rw [dOk]
  simp only [dOks, h, ok_col, dOk, Bool.and_true]
theorem cut_take {α : Type} (xs : List α) (n : Nat) : cutL xs none (some (n : Int)) = xs.take n := by
  unfold cutL sIxD
  have h0 : ¬ ((n : Int) < 0) := by omega
  simp [h0]
theorem press_const (s : LW) (k : Ky) : (pressL s k).1.c = s.c ∧ (pressL s k).1.dead = s.dead ∧ (pressL s k).1.dn = s.dn := by
  have on : ∀ q, (onL s q).1.c = s.c ∧ (onL s q).1.dead = s.dead ∧ (onL s q).1.dn = s.dn := fun q => by unfold onL; split <;> exact ⟨rfl, rfl, rfl⟩
  have row : ∀ q b, (rowL s q b).1.c = s.c ∧ (rowL s q b).1.dead = s.dead ∧ (rowL s q b).1.dn = s.dn := fun q b => by unfold rowL; split; exact ⟨rfl, rfl, rfl⟩; split <;> exact ⟨rfl, rfl, rfl⟩
  have ink : ∀ b c, (inkL s b c).1.c = s.c ∧ (inkL s b c).1.dead = s.dead ∧ (inkL s b c).1.dn = s.dn := fun b c => by unfold inkL; split; exact ⟨rfl, rfl, rfl⟩; simp only; split <;> exact ⟨rfl, rfl, rfl⟩
  show (actL s k).1.c = s.c ∧ (actL s k).1.dead = s.dead ∧ (actL s k).1.dn = s.dn
  cases k with
  | sign c => exact ink _ _
  | lift c => exact ink _ _
  | blank => exact on _
  | half => exact on _
  | tab => exact on _
  | back => show (stepL1 s .back).1.c = _ ∧ (stepL1 s .back).1.dead = _ ∧ (stepL1 s .back).1.dn = _; simp only [stepL1]; split <;> exact ⟨rfl, rfl, rfl⟩
  | ret => exact row _ _
  | up => exact row _ _
  | down => exact row _ _
  | left => show (turnL s .left).1.c = _ ∧ (turnL s .left).1.dead = _ ∧ (turnL s .left).1.dn = _; simp only [turnL]; split <;> exact ⟨rfl, rfl, rfl⟩
  | right => show (turnL s .right).1.c = _ ∧ (turnL s .right).1.dead = _ ∧ (turnL s .right).1.dn = _; simp only [turnL]; split <;> exact ⟨rfl, rfl, rfl⟩
  | clear => show (turnL s .clear).1.c = _ ∧ (turnL s .clear).1.dead = _ ∧ (turnL s .clear).1.dn = _; simp only [turnL]; split <;> exact ⟨rfl, rfl, rfl⟩
  | _ => exact ⟨rfl, rfl, rfl⟩
theorem run_const : ∀ (ks : List Ky) (s : LW), (runL s ks).1.c = s.c ∧ (runL s ks).1.dead = s.dead ∧ (runL s ks).1.dn = s.dn
  | [], _ => ⟨rfl, rfl, rfl⟩
  | k :: ks, s => by
    have h1 := press_const s k
    have h2 := run_const ks (pressL s k).1
    exact ⟨h2.1.trans h1.1, h2.2.1.trans h1.2.1, h2.2.2.trans h1.2.2⟩
theorem run_snoc (ks : List Ky) (k : Ky) (s : LW) : (runL s (ks ++ [k])).1 = (pressL (runL s ks).1 k).1 := by
  induction ks generalizing s with
  | nil => rfl
  | cons a ks ih => exact ih _
theorem cut_drop {α : Type} (xs : List α) {n : Nat} (h : n ≤ xs.length) : cutL xs (some (n : Int)) none = xs.drop n := by
  unfold cutL sIxD
  have h0 : ¬ ((n : Int) < 0) := by omega
  simp [h0]
  have : min n xs.length = n := by omega
  rw [this, List.take_of_length_le (by simp)]
end DL
end
section
set_option maxHeartbeats 0
namespace DL
open PySem
theorem run_sm : ∀ {ks : List Ky} {s : LW} {n : Nat}, (∀ k ∈ ks, kyOk k) → s.sm n → (runL s ks).1.sm (n + ks.length)
  | [], s, n, _, h => h
  | k :: ks, s, n, hk, h => by
    have := run_sm (fun k' h' => hk k' (List.mem_cons_of_mem _ h')) (press_sm (hk k List.mem_cons_self) h)
    rw [List.length_cons, show n + (ks.length + 1) = n + 1 + ks.length by omega]
    exact this
theorem mkB_alike (a b : Mk) : alikeD (mkB a) (mkB b) = true := by
  have : ∀ x y : Bool, alikeD (colD x) (colD y) = true := fun x y => by cases x <;> cases y <;> rfl
  simp [mkB, alikeD_cons, alikeD_int, alikeD_str, alikeD_nil, this]
theorem ok_mkB (k : Mk) (n : Nat) (h : k.sign < 128) : dOk (mkB k) (n + 1) = true := by
  have := ok_mk k n h
  simp only [mkD] at this
  simp only [mkB]
  rw [dOk, dOks] at this
  rw [dOk]
  simpa using (Bool.and_eq_true _ _ ▸ this).2
theorem mk_cut (k : Mk) : cutL [D.int k.n, .int k.row, .int k.place, ch k.sign, colD k.red] (some 1) none = [.int k.row, .int k.place, ch k.sign, colD k.red] := cut_drop (n := 1) [D.int k.n, .int k.row, .int k.place, ch k.sign, colD k.red] (by simp)
variable {A : Ad} (hA : AdOk A)
include hA
theorem dt_marks_of : ∀ ds m R x, ph_marks_of A ds m R x → psi_marks_of A (startD 9 ds) m (endD R x) := by
  rintro ds m R x ⟨c, dead, dn, ks, rfl, hM, hk, hl, h⟩
  have L : LIM = 16777216 := rfl
  simp [psi_marks_of]
  refine ⟨c, dead, dn, ks, rfl, hM, hk, hl, fun p m' hW => ?_⟩
  obtain ⟨ta, ma, ra, W⟩ := hW
  have hok : (runL (newS c dead dn) ks).1.ok := ok_run (new_ok hM)
  have hsm := run_sm hk (new_sm c dead dn)
  unfold marksS at h
  generalize (runL (newS c dead dn) ks).1 = s at *
  generalize (runL (newS c dead dn) ks).2 = T at *
  have hlm : s.marks.length ≤ 4000 := by have := hsm.m; omega
  simp [gf_marks W.hp, asI, W.hm]
  refine lc_map (G := fun m' => m' ma = some (.lst (s.marks.map mkD))) mkD (fun k => .tup [.int k.row, .int k.place, .int k.n, mkB k]) W.hm s.marks [] _ (by simp; omega) (fun k hk K1 hK => ?_) ?_
  · have i1 : ∀ K : KD, wIx (mkD k) (.int 1) m' K = K (.int k.row) m' := fun _ => rfl
    have i2 : ∀ K : KD, wIx (mkD k) (.int 2) m' K = K (.int k.place) m' := fun _ => rfl
    have i0 : ∀ K : KD, wIx (mkD k) (.int 0) m' K = K (.int k.n) m' := fun _ => rfl
    have i3 : ∀ K : KD, wCut false (mkD k) (some 1) none m' K = K (mkB k) m' := fun K => by
      show K (.tup (cutL [D.int k.n, .int k.row, .int k.place, ch k.sign, colD k.red] (some 1) none)) m' = _
      rw [mk_cut]; rfl
    simp [i1, i2, i0, i3]
    exact ⟨by decide, hK⟩
  · rw [List.nil_append]
    have hk60 : ∀ k ∈ s.marks, dOk (mkB k) 58 = true := fun k hk => ok_mkB k 57 (hsm.g k hk)
    refine sort_by (fun k : Mk => D.tup [.int k.row, .int k.place, .int k.n, mkB k]) mkLt s.marks rfl (fun k hk => ?_) (fun a ha b hb => ?_) (.inl fun d hd => ?_) (fun a ha b hb => key_lt hok.mn hk60 (fun a _ b _ => mkB_alike a b) a ha b hb) fun ys hp hs => ?_
    · rw [dOk, dOks, dOks, dOks, dOks, hk60 k hk]; rfl
    · simp [alikeD_cons, alikeD_int, alikeD_nil, mkB_alike]
    · obtain ⟨k, _, rfl⟩ := List.mem_map.mp hd; exact ⟨_, _, rfl⟩
    · have e := sortM_is hok.mn hp hs
      subst e
      simp [asI]
      have hlen : (sortM s.marks).length = s.marks.length := (sortM_perm _).length_eq
      have key : ∀ (xs : List Mk) (acc : List D) (K : List D → Store → Prop) (v0 v1 v2 v3 v4 : Option D), acc.length + xs.length ≤ LIM → K (acc ++ xs.map mkD) m' → wLcL (fun _ => True) [6, 7, 8, 5] (gTp [6, 7, 8, 5]) wYes (wOp (wAdd false) (wTup (wCons (wVar 8) wNil)) (wVar 5)) [v0, v1, v2, v3, v4, none, none, none, none] (xs.map fun k => D.tup [.int k.row, .int k.place, .int k.n, mkB k]) acc m' K := by
        intro xs
        induction xs with
        | nil => intro acc K v0 v1 v2 v3 v4 _ hK; exact ⟨trivial, by simpa using hK⟩
        | cons k xs ih =>
          intro acc K v0 v1 v2 v3 v4 hl hK
          simp only [List.length_cons] at hl
          refine ⟨trivial, ?_⟩
          have e1 : ∀ K : KD, wAdd false (.tup [.int k.n]) (mkB k) m' K = (5 ≤ LIM ∧ K (mkD k) m') := fun K => rfl
          simp [e1]
          refine ⟨by decide, by decide, by omega, ih (acc ++ [mkD k]) K v0 v1 v2 v3 v4 (by simp; omega) (by simpa using hK)⟩
      refine key (sortM s.marks) [] _ _ _ _ _ _ (by rw [hlen]; simp; omega) ?_
      exact ⟨m, W.sub, h⟩
theorem dt_strikes : ∀ ds m R x, ph_strikes A ds m R x → psi_strikes A (startD 3 ds) m (endD R x) := by
  rintro ds m R x ⟨dm, dk, rfl, h⟩
  have L : LIM = 16777216 := rfl
  simp [psi_strikes]
  refine ⟨dm, dk, rfl, h.imp fun c dead dn ks e hM e2 hk hl hR => ?_⟩
  subst e e2
  clear h
  have h := hR
  have hk' : ∀ k ∈ ks, kyOk k := fun k hk' => kyG_ok (hk k hk')
  have hsm := run_sm hk' (new_sm c dead dn)
  refine ⟨c, dead, dn, ks, rfl, hM, hk', hl, ?_⟩
  simp only [asI]
  have hlen : (marksS c dead dn ks).length ≤ 4000 := by
    have := hsm.m
    have e : (marksS c dead dn ks).length = _ := (sortM_perm _).length_eq
    omega
  refine lc_map (G := fun _ => True) mkD mkB trivial (marksS c dead dn ks) [] _ (by simp; omega) (fun k hk K1 hK => ?_) (by simpa using h)
  have i3 : ∀ K : KD, wCut false (mkD k) (some 1) none m K = K (mkB k) m := fun K => by
    show K (.tup (cutL [D.int k.n, .int k.row, .int k.place, ch k.sign, colD k.red] (some 1) none)) m = _
    rw [mk_cut]; rfl
  simp [i3]
  exact hK
end DL
end
section
set_option maxHeartbeats 0
namespace DL
open PySem PySem.Spec PyProof.Rows L2
section
variable {P : Program} {w : World}
def Says (P : Program) (w : World) (s : Shared) (c : Sem Bool) (b : Bool) : Prop := ∀ (A : Around) (E : Value → Shared → Prop) (Q : Bool → Shared → Prop), Q b s → wpAny (model P w) A c Q E s
theorem says_pure {s : Shared} (b : Bool) : Says P w s (pure b) b := fun _ _ _ h => wpAny_pure h
mutual
theorem hbv {s : Shared} : ∀ (k : NestedKey) (v : Value) (n : Nat), NestedIs s.heap k v → ∃ b, Says P w s (hashByValue n v) b
  | .none, _, n, x => by cases x; exact ⟨true, by cases n <;> exact says_pure _⟩
  | .num i, _, n, x => by cases x <;> exact ⟨true, by cases n <;> exact says_pure _⟩
  | .text y, _, n, x => by cases x; exact ⟨false, by cases n <;> exact says_pure _⟩
  | .tup ks, _, 0, x => by cases x; exact ⟨false, says_pure _⟩
  | .tup ks, _, n + 1, x => by
    cases x with
    | @tup a o vs m _ hg hc hd hk =>
      obtain ⟨b, hb⟩ := hbvs ks vs.toList n hk
      refine ⟨b, fun A E Q h => ?_⟩
      unfold hashByValue
      refine wpAny_bind (wpAny_specialOf ⟨o, hg, hc⟩ F.slot_tuple_hash.lookup ?_)
      show wpAny _ _ (seqItems? (.ref a) >>= _) _ _ s
      refine wpAny_bind (wpAny_seqItems hg hd ?_)
      refine wpAny_bind ?_
      show wpAny _ _ (forIn vs _ _) _ _ s
      rw [← Array.forIn_toList]
      refine hb A E _ ?_
      cases b
      · exact fun r e => by simp only [e]; exact wpAny_pure h
      · exact fun r e => by simp only [e]; exact wpAny_pure h
theorem hbvs {s : Shared} : ∀ (ks : List NestedKey) (vs : List Value) (n : Nat), NestedAll s.heap ks vs → ∃ b, ∀ (A : Around) (E : Value → Shared → Prop) (Q : Option Bool × Unit → Shared → Prop),
    (∀ r : Option Bool × Unit, r.1 = (if b = true then none else some false) → Q r s) → wpAny (model P w) A (forIn vs ((none, ()) : Option Bool × Unit) fun x r => do
      let c ← hashByValue n x
      if (!c) = true then pure (ForInStep.done (some false, ())) else pure (ForInStep.yield (none, ()))) Q E s
  | [], _, n, x => by cases x; exact ⟨true, fun A E Q h => wpAny_pure (h _ rfl)⟩
  | k :: ks, _, n, x => by
    cases x with
    | cons x1 x2 =>
      obtain ⟨b1, h1⟩ := hbv k _ n x1
      obtain ⟨b2, h2⟩ := hbvs ks _ n x2
      refine ⟨b1 && b2, fun A E Q h => ?_⟩
      rw [List.forIn_cons]
      refine wpAny_bind (wpAny_bind (h1 A E _ ?_))
      cases b1
      · exact wpAny_pure (wpAny_pure (h _ rfl))
      · exact wpAny_pure (h2 A E Q h)
end
mutual
theorem oac {s : Shared} : ∀ (k : NestedKey) (v : Value) (n : Nat), NestedIs s.heap k v → k.depth ≤ n → Says P w s (ofAClassStatement n v) false
  | .none, _, n, x, _ => by cases x; cases n <;> exact says_pure _
  | .num i, _, n, x, _ => by cases x <;> cases n <;> exact says_pure _
  | .text y, _, n, x, _ => by cases x; cases n <;> exact says_pure _
  | .tup ks, _, 0, x, h => by simp [NestedKey.depth] at h
  | .tup ks, _, n + 1, x, hn => by
    cases x with
    | @tup a o vs m _ hg hc hd hk =>
      simp only [NestedKey.depth] at hn
      have hb := oacs ks vs.toList n hk (by omega)
      intro A E Q h
      unfold ofAClassStatement
      refine wpAny_bind (wpAny_typeOf ⟨o, hg, hc⟩ ?_)
      have e : (("tuple" : String) == "tuple") = true := by decide
      dsimp only
      simp only [e, if_true, Bool.not_true, Bool.false_eq_true, if_false]
      try refine wpAny_bind (wpAny_pure ?_)
      try simp only [Bool.not_true, Bool.false_eq_true, if_false]
      show wpAny _ _ (seqItems? (.ref a) >>= _) _ _ s
      refine wpAny_bind (wpAny_seqItems hg hd ?_)
      dsimp only
      refine wpAny_bind ?_
      show wpAny _ _ (forIn vs _ _) _ _ s
      rw [← Array.forIn_toList]
      exact hb A E _ fun r e => by simp only [e]; exact wpAny_pure h
theorem oacs {s : Shared} : ∀ (ks : List NestedKey) (vs : List Value) (n : Nat), NestedAll s.heap ks vs → NestedKey.depthAll ks ≤ n → ∀ (A : Around) (E : Value → Shared → Prop) (Q : Option Bool × Unit → Shared → Prop),
    (∀ r : Option Bool × Unit, r.1 = none → Q r s) → wpAny (model P w) A (forIn vs ((none, ()) : Option Bool × Unit) fun x r => do
      let c ← ofAClassStatement n x
      if c = true then pure (ForInStep.done (some true, ())) else pure (ForInStep.yield (none, ()))) Q E s
  | [], _, n, x, _ => by cases x; exact fun A E Q h => wpAny_pure (h _ rfl)
  | k :: ks, _, n, x, hn => by
    simp only [NestedKey.depthAll] at hn
    cases x with
    | cons x1 x2 =>
      have h1 := oac k _ n x1 (by omega)
      have h2 := oacs ks _ n x2 (by omega)
      intro A E Q h
      rw [List.forIn_cons]
      exact wpAny_bind (wpAny_bind (h1 A E _ (wpAny_pure (h2 A E Q h))))
end
def IsN (h : Heap) (k : NestedKey) (a : Addr) : Prop := NestedIs h k (.ref a) ∧ k.depth ≤ 8
theorem IsN.keep {h h' : Heap} {k : NestedKey} {a : Addr} (x : IsN h k a) (hk : ∀ b o vs n, h.get? b = some o → o.data = .seq vs n → h'.get? b = some o) : IsN h' k a := ⟨NestedIs.at hk k _ x.1, x.2⟩
theorem IsN.quiet {s : Shared} {k : NestedKey} {a : Addr} (x : IsN s.heap k a) : Says P w s (eqIsQuiet 8 (.ref a)) true := fun A E Q h => quiet_key k _ 8 s x.1 x.2 A E Q h
theorem seenN {s : Shared} {k : NestedKey} {b : Addr} (hk : IsN s.heap k b) {ys : List Value} (hy : ∀ y ∈ ys, ∃ k' c, y = Value.ref c ∧ IsN s.heap k' c) : Says P w s (searchCouldBeSeen (.ref b) ys) false := by
  intro A E Q h
  unfold searchCouldBeSeen
  refine wpAny_bind (wpAny_forIn_list _ (fun rest r s' => r.1 = none ∧ s' = s ∧ ∀ y ∈ rest, ∃ k' c, y = Value.ref c ∧ IsN s.heap k' c) _ ?_ ?_ _ _ ⟨rfl, rfl, hy⟩)
  · rintro v rest r s' ⟨hr, e, hall⟩
    subst e
    obtain ⟨k', c, rfl, hc⟩ := hall v List.mem_cons_self
    have more : ∀ y ∈ rest, ∃ k' c, y = Value.ref c ∧ IsN s'.heap k' c := fun u hu => hall u (List.mem_cons_of_mem _ hu)
    dsimp only
    split
    · exact wpAny_pure ⟨rfl, rfl, more⟩
    · refine wpAny_bind (hk.quiet A E _ ?_)
      simp only [Bool.not_true, Bool.false_eq_true, if_false]
      refine wpAny_bind (hc.quiet A E _ ?_)
      simp only [Bool.not_true, Bool.false_eq_true, if_false]
      refine wpAny_bind (oac k _ 8 hk.1 hk.2 A E _ ?_)
      simp only [Bool.false_eq_true, if_false]
      refine wpAny_bind (oac k' _ 8 hc.1 hc.2 A E _ ?_)
      simp only [Bool.false_eq_true, if_false]
      exact wpAny_pure ⟨rfl, rfl, more⟩
  · rintro ⟨r1, r2⟩ s' ⟨hr, e, _⟩
    simp only at hr
    subst hr e
    exact wpAny_pure h
def rowN (w : World) (p : Addr × NestedKey) : Int × Value := (p.2.hash w, .ref p.1)
abbrev hsN (w : World) (L : List (Addr × NestedKey)) : List Int := L.map fun p => p.2.hash w
structure SetN (w : World) (h : Heap) (a : Addr) (L : List (Addr × NestedKey)) (es : Array (Int × Value)) (ep : Nat) (t : SetTable) : Prop where
  ob : ∃ o, h.get? a = some o ∧ o.ExactSet ∧ o.data = .set es ep t
  rows : es.toList = L.map (rowN w)
  tab : TabOk t (hsN w L)
  nd : (L.map (·.2)).Nodup
  key : ∀ p ∈ L, IsN h p.2 p.1
  led : w.params.followText "set-order" = true ∨ t.led = true
  room : L.length * 5 < t.mask * 3
  few : L.length ≤ 76
theorem rows_size {es : Array (Int × Value)} {L : List (Addr × NestedKey)} (h : es.toList = L.map (rowN w)) : es.size = L.length := by
  rw [← Array.length_toList, h, List.length_map]
theorem rows_get {es : Array (Int × Value)} {L : List (Addr × NestedKey)} (h : es.toList = L.map (rowN w)) {i : Nat} {p : Addr × NestedKey} (hp : L[i]? = some p) : es[i]? = some (rowN w p) := by
  rw [← Array.getElem?_toList, h, List.getElem?_map, hp]; rfl
theorem fitsN {es : Array (Int × Value)} {L : List (Addr × NestedKey)} {t : SetTable} (h : es.toList = L.map (rowN w)) (T : TabOk t (hsN w L)) (hl : L.length ≤ t.mask) : t.fits es.size = true := by
  have h1 := T.sz
  rw [List.length_map] at h1
  have h2 := rows_size h
  unfold SetTable.fits SetTable.fill
  rw [T.dm, Bool.and_eq_true, beq_iff_eq, decide_eq_true_eq]
  exact ⟨by omega, by show t.place.size + 0 ≤ t.mask; omega⟩
variable {A : Around} {E : Value → Shared → Prop} {s : Shared} {a : Addr} {L : List (Addr × NestedKey)} {es : Array (Int × Value)} {ep : Nat} {t : SetTable}
theorem SetN.fits (R : SetN w s.heap a L es ep t) : t.fits es.size = true := fitsN R.rows R.tab (by have := R.room; omega)
theorem nth_dummy (m : Nat) : ∀ (n : Nat) (p : SetTable.Probe), p.dummy = none → (nth m p n).dummy = none
  | 0, _, h => h
  | n + 1, p, h => nth_dummy m n (adv m p) (by unfold adv; split <;> exact h)
abbrev st0 (t : SetTable) (H : Int) : SetTable.Probe := runAt t.mask (SetTable.bits H % (t.mask + 1)) (SetTable.bits H)
theorem searchN (R : SetN w s.heap a L es ep t) {x : Addr} {k : NestedKey} (hx : IsN s.heap k x) (hu : A.units + 8 < cLine) {K : Nat} (hf : K < 10 * SetTable.turns t.mask)
    (hK : way t.mask (k.hash w) K ∉ t.place.toList) (hb : ∀ c, c < K → way t.mask (k.hash w) c ∈ t.place.toList) {Q : SetFound → Shared → Prop}
    (yes : k ∈ L.map (·.2) → Q (.there none) s) (no : k ∉ L.map (·.2) → Q (.free (way t.mask (k.hash w) K) false) s) :
    ∀ (f c : Nat) (st : Option SetTable.Probe), st.getD (t.probeStart (k.hash w)) = nth t.mask (st0 t (k.hash w)) c → c ≤ K → K < f + c →
      (∀ (i : Nat) (p : Addr × NestedKey), L[i]? = some p → p.2 = k → ∃ d, c ≤ d ∧ d < K ∧ t.place.toList[i]? = some (way t.mask (k.hash w) d)) →
      wpAny (model P w) A (setSearchFrom a (.ref x) (k.hash w) true f st) Q E s := by
  obtain ⟨o, ho, hex, hd⟩ := R.ob
  have gw : ¬ t.gaveWay = true := by
    unfold SetTable.gaveWay
    rw [mask_odd R.tab.mok]; decide
  intro f
  induction f with
  | zero => intro c st _ h1 h2 _; omega
  | succ f ih =>
    intro c st hst hc hfu hre
    rw [setSearchFrom_succ]
    refine wpAny_bind (wpAny_setState_of ho hd R.fits ?_)
    dsimp only
    refine wp_if_neg gw ?_
    try refine wpAny_bind (wpAny_pure ?_)
    have sh : ∀ q, nth t.mask (nth t.mask (st0 t (k.hash w)) c) q = nth t.mask (st0 t (k.hash w)) (c + q) := fun q => (nth_add t.mask c _ q).symm
    have sj : ∀ q, (nth t.mask (nth t.mask (st0 t (k.hash w)) c) q).j = way t.mask (k.hash w) (c + q) := fun q => by rw [sh]
    have eK : c + (K - c) = K := by omega
    have spec := go_spec t R.tab.ris R.tab.dm (fun i => (es[i]?.map (·.1)).getD 0) (k.hash w) (10 * SetTable.turns t.mask) (K - c) _ (nth_dummy t.mask c (st0 t (k.hash w)) rfl) (by omega)
      (fun q hq => by rw [sj]; exact hb _ (by omega)) (by rw [sj, eK]; exact hK)
    have hat : ∀ (i : Nat) (p : Addr × NestedKey), L[i]? = some p → (es[i]?.map (·.1)).getD 0 = p.2.hash w := fun i p hp => by rw [rows_get R.rows hp]; rfl
    rcases spec with ⟨q, i, hq, hi, hh, hno, hpr⟩ | ⟨hno, hpr⟩
    · rw [sj] at hi
      have hpr' : t.probe (fun i => (es[i]?.map (·.1)).getD 0) (k.hash w) (st.getD (t.probeStart (k.hash w))) = some (.candidate (way t.mask (k.hash w) (c + q)) i (nth t.mask (st0 t (k.hash w)) (c + (q + 1)))) := by
        rw [hst, ← sj, ← sh]; exact hpr
      rw [hpr']
      dsimp only
      obtain ⟨p, hp⟩ : ∃ p, L[i]? = some p := by
        have h1 : i < t.place.toList.length := (List.getElem?_eq_some_iff.mp hi).1
        have h2 := R.tab.sz
        rw [List.length_map] at h2
        rw [Array.length_toList] at h1
        exact ⟨_, List.getElem?_eq_getElem (by omega)⟩
      have hm : p ∈ L := List.mem_of_getElem? hp
      have rest : wpAny (model P w) A (searchRest a (.ref x) (k.hash w) true f es t (way t.mask (k.hash w) (c + q)) i (nth t.mask (st0 t (k.hash w)) (c + (q + 1)))) Q E s := by
        unfold searchRest
        rw [rows_get R.rows hp]
        dsimp only [rowN]
        refine wpAny_bind (wpAny_holding ((nestedKind P w).eqBool hu (R.key p hm) hx ?_))
        refine wpAny_bind (wpAny_setState_of ho hd R.fits ?_)
        dsimp only
        by_cases hkk : p.2 = k
        · exact wp_if_pos (by simp [hkk]) (wpAny_pure (yes (List.mem_map.mpr ⟨p, hm, hkk⟩)))
        · have hs : t.slot (way t.mask (k.hash w) (c + q)) = .live i := slot_live R.tab.ris hi
          refine wp_if_neg (by simp [hkk]) ?_
          try refine wpAny_bind (wpAny_pure ?_)
          rw [sameMem]
          dsimp only
          simp only [if_true, hs, rows_get R.rows hp, rowN]
          refine wpAny_bind (wpAny_isSame_ref_self (wpAny_bind (wpAny_pure ?_)))
          simp only [if_true]
          refine wp_if_neg (by simp [hkk]) (ih (c + (q + 1)) _ rfl (by omega) (by omega) fun j r hj hr => ?_)
          obtain ⟨d, d1, d2, d3⟩ := hre j r hj hr
          refine ⟨d, ?_, d2, d3⟩
          rcases Nat.lt_trichotomy d (c + q) with z | z | z
          · exact absurd ((hat j r hj).trans (by rw [hr])) (hno (d - c) j (by omega) (by rw [sj, show c + (d - c) = d by omega]; exact d3))
          · subst z
            have h0 := slot_live R.tab.ris d3
            rw [hs] at h0
            injection h0 with h0
            rw [← h0, hp] at hj
            cases hj
            exact absurd hr hkk
          · omega
      by_cases hl : t.led = true
      · refine wp_if_neg (by simp [hl]) ?_
        try refine wpAny_bind (wpAny_pure ?_)
        exact rest
      · refine wp_if_pos (by simp [hl]) (wpAny_bind (seenN hx (fun y hy => ?_) A E _ ?_))
        · obtain ⟨e, he, rfl⟩ := List.mem_map.mp hy
          have he1 : e ∈ es ∧ e.1 = k.hash w := by simpa using he
          have he2 : e ∈ es.toList := by simpa using he1.1
          rw [R.rows] at he2
          obtain ⟨r, hr, rfl⟩ := List.mem_map.mp he2
          exact ⟨r.2, r.1, rfl, R.key r hr⟩
        · refine wp_if_neg (by decide) ?_
          try refine wpAny_bind (wpAny_pure ?_)
          exact rest
    · have hpr' : t.probe (fun i => (es[i]?.map (·.1)).getD 0) (k.hash w) (st.getD (t.probeStart (k.hash w))) = some (.empty (way t.mask (k.hash w) K) none) := by
        have e2 : way t.mask (k.hash w) K = (nth t.mask (nth t.mask (st0 t (k.hash w)) c) (K - c)).j := by rw [sj, eK]
        rw [hst, e2]; exact hpr
      rw [hpr']
      dsimp only
      refine wpAny_pure (no fun hm => ?_)
      obtain ⟨r, hr, hk⟩ := List.mem_map.mp hm
      obtain ⟨j, hj, ej⟩ := List.getElem_of_mem hr
      have hj' : L[j]? = some r := by rw [List.getElem?_eq_getElem hj, ej]
      obtain ⟨d, d1, d2, d3⟩ := hre j r hj' hk
      exact hno (d - c) j (by omega) (by rw [sj, show c + (d - c) = d by omega]; exact d3) ((hat j r hj').trans (by rw [hk]))
theorem search1N (R : SetN w s.heap a L es ep t) {x : Addr} {k : NestedKey} (hx : IsN s.heap k x) (hu : A.units + 8 < cLine) {Q : SetFound → Shared → Prop} (yes : k ∈ L.map (·.2) → Q (.there none) s)
    (no : ∀ K, k ∉ L.map (·.2) → way t.mask (k.hash w) K ∉ t.place.toList → (∀ c, c < K → way t.mask (k.hash w) c ∈ t.place.toList) → Q (.free (way t.mask (k.hash w) K) false) s) :
    wpAny (model P w) A (setSearch a (.ref x) (k.hash w) true) Q E s := by
  have hroom := R.room
  obtain ⟨K, hf, hK, hb⟩ := R.tab.first (by rw [List.length_map]; omega) (k.hash w)
  have big : K < 100000 := by
    have : 10 * SetTable.turns t.mask ≤ 1420 := by
      unfold SetTable.turns
      rcases R.tab.mok with e | e | e <;> omega
    omega
  refine searchN R hx hu hf hK hb yes (fun z => no K z hK hb) 100000 0 none rfl (Nat.zero_le _) big fun i p hp hk => ?_
  have hi : (hsN w L)[i]? = some (k.hash w) := by rw [List.getElem?_map, hp, ← hk]; rfl
  have hl : i < t.place.toList.length := by
    have h1 : i < L.length := (List.getElem?_eq_some_iff.mp hp).1
    have h2 := R.tab.sz
    rw [List.length_map] at h2
    rw [Array.length_toList]; omega
  have hj := List.getElem?_eq_getElem hl
  obtain ⟨d, hd, e⟩ := R.tab.before hK hi hj
  exact ⟨d, Nat.zero_le _, hd, by rw [hj, e]⟩
theorem IsN.same {h h' : Heap} {k : NestedKey} {b : Addr} {o : Obj} (x : IsN h k b) (ho : h.get? a = some o) (hd : o.data = .set es ep t) (hs : Heap.SameBut a h h') : IsN h' k b :=
  x.keep fun c u vs n hc hv => (hs.2 c fun z => by subst z; rw [ho] at hc; cases hc; rw [hd] at hv; cases hv).trans hc
theorem rows_order {order : Array Nat} (hr : es.toList = L.map (rowN w)) (hp : order.toList.Perm (List.range L.length)) :
    ∃ L2, (order.filterMap (es[·]?)).toList = L2.map (rowN w) ∧ L2.Perm L ∧ hsN w L2 = order.toList.map fun i => (es.map (·.1)).getD i 0 := by
  have main : ∀ l : List Nat, (∀ i ∈ l, i < L.length) → l.filterMap (fun i => es[i]?) = (l.filterMap fun i => L[i]?).map (rowN w) ∧ hsN w (l.filterMap fun i => L[i]?) = l.map fun i => (es.map (·.1)).getD i 0 := by
    intro l
    induction l with
    | nil => exact fun _ => ⟨rfl, rfl⟩
    | cons i l ih =>
      intro h
      obtain ⟨e1, e2⟩ := ih fun j hj => h j (List.mem_cons_of_mem _ hj)
      have hil := h i List.mem_cons_self
      have hi := List.getElem?_eq_getElem hil
      have hE := rows_get hr hi
      refine ⟨?_, ?_⟩
      · rw [List.filterMap_cons_some hE, List.filterMap_cons_some hi, e1]; rfl
      · rw [List.filterMap_cons_some hi]
        show _ :: hsN w _ = _ :: _
        rw [e2]
        congr 1
        have : (es.map (·.1))[i]? = some (L[i].2.hash w) := by rw [Array.getElem?_map, hE]; rfl
        simp [Array.getD_eq_getD_getElem?, this]
  obtain ⟨e1, e2⟩ := main order.toList fun i hi => List.mem_range.mp (hp.mem_iff.mp hi)
  refine ⟨_, by simpa using e1, ?_, e2⟩
  have all : (List.range L.length).filterMap (fun i => L[i]?) = L := by
    apply List.ext_getElem?
    intro i
    have key : ∀ n, n ≤ L.length → (List.range n).filterMap (fun i => L[i]?) = L.take n := by
      intro n
      induction n with
      | zero => exact fun _ => by simp
      | succ n ih =>
        intro hn
        rw [List.range_succ, List.filterMap_append, ih (by omega), List.filterMap_cons_some (List.getElem?_eq_getElem (show n < L.length by omega)), List.take_succ, List.getElem?_eq_getElem (show n < L.length by omega)]; rfl
    rw [key _ (Nat.le_refl _), List.take_length]
  have h := hp.filterMap (fun i => L[i]?)
  rw [all] at h
  exact h
theorem relayN {o : Obj} (ho : s.heap.get? a = some o) (hex : o.ExactSet) (hd : o.data = .set es ep t) (hr : es.toList = L.map (rowN w)) (hsz : t.place.size = es.size) (hdm : t.dummies = #[]) (hfl : es.size ≤ t.mask)
    (nd : (L.map (·.2)).Nodup) (hk : ∀ p ∈ L, IsN s.heap p.2 p.1) (ld : w.params.followText "set-order" = true ∨ t.led = true) (few : L.length ≤ 76) {wanted M : Nat}
    (hw : SetTable.sizeAbove wanted = M + 1) (hM : MaskOk M) (hn : L.length * 5 < M * 3) {Q : Unit → Shared → Prop}
    (hQ : ∀ h' L' es' ep' t', Heap.SameBut a s.heap h' → SetN w h' a L' es' ep' t' → L'.Perm L → Q () { s with heap := h' }) : wpAny (model P w) A (setRelay a wanted) Q E s := by
  have hsl := rows_size hr
  have hM2 : M ≤ 127 := by rcases hM with e | e | e <;> omega
  have hfits : t.fits es.size = true := by
    unfold SetTable.fits SetTable.fill
    rw [hdm, Bool.and_eq_true, beq_iff_eq, decide_eq_true_eq]
    exact ⟨hsz, by show t.place.size + 0 ≤ t.mask; omega⟩
  obtain ⟨t', order, e, hp, T, em, el, _, _⟩ := relaid_ok t (hs := es.map (·.1)) (wanted := wanted) (M := M) (by omega) hM (by rw [Array.size_map, hsl]; omega)
  rw [Array.size_map, hsl] at hp
  obtain ⟨L2, r1, r2, r3⟩ := rows_order hr hp
  rw [← r3] at T
  have hs2 : (order.filterMap (es[·]?)).size = es.size := by rw [rows_size r1, r2.length_eq, hsl]
  rw [setRelay_eq]
  refine wpAny_bind (wpAny_setState_of ho hd hfits ?_)
  dsimp only
  refine wp_if_neg (by rw [sizeLine_eq, hw]; omega) ?_
  try refine wpAny_bind (wpAny_pure ?_)
  rw [e]
  dsimp only
  refine wpAny_bind (wp_if_neg (by rw [hs2]; simp) ?_)
  try refine wpAny_bind (wpAny_pure ?_)
  refine wpAny_pure ?_
  dsimp only
  have sb : Heap.SameBut a s.heap (s.heap.update a (Obj.putSet (order.filterMap (es[·]?)) t')) := Heap.SameBut.update ..
  refine wpAny_storeSet_of ho hd (hQ _ L2 (order.filterMap (es[·]?)) (ep + 1) t' sb ?_ r2) (by rw [hs2, hsl, sizeLine_eq]; omega)
  exact ⟨⟨_, store_at ho hd, ⟨hex.1, hex.2.1, hex.2.2⟩, rfl⟩, r1, T, (r2.map (·.2)).nodup_iff.mpr nd, fun p hpm => (hk p (r2.mem_iff.mp hpm)).same ho hd sb, by rw [el]; exact ld, by rw [r2.length_eq, em]; exact hn, by rw [r2.length_eq]; exact few⟩
theorem addN (R : SetN w s.heap a L es ep t) {x : Addr} {k : NestedKey} (hx : IsN s.heap k x) (hu : A.units + 8 < cLine) (hfew : L.length + 1 ≤ 76) {Q : Bool → Shared → Prop}
    (hQ : ∀ b h' L' es' ep' t', Heap.SameBut a s.heap h' → SetN w h' a L' es' ep' t' → (k ∈ L.map (·.2) → L' = L) → (k ∉ L.map (·.2) → L'.Perm ((x, k) :: L)) → Q b { s with heap := h' }) :
    wpAny (model P w) A (setAddHashed a (.ref x) (k.hash w)) Q E s := by
  obtain ⟨o, ho, hex, hd⟩ := R.ob
  have hsl := rows_size R.rows
  have hroom := R.room
  unfold setAddHashed
  refine wpAny_holding ?_
  rw [show (100000 : Nat) = 99999 + 1 from rfl, setAddHashedIn_succ]
  refine wpAny_bind (wpAny_setState_of ho hd R.fits ?_)
  dsimp only
  refine wp_if_neg (by simp [byScan, Value.scannable]) ?_
  try refine wpAny_bind (wpAny_pure ?_)
  refine wpAny_bind (search1N R hx hu (fun hm => wpAny_pure (hQ false s.heap L es ep t (Heap.SameBut.refl a s.heap) R (fun _ => rfl) fun z => absurd hm z)) fun K hm hK hb => ?_)
  dsimp only
  refine wpAny_bind (wpAny_setState_of ho hd R.fits ?_)
  dsimp only
  obtain ⟨q1, q2, q3, q4, q5, q6, q7, q8, q9⟩ := R.tab.put hK hb
  generalize hpt : t.put (way t.mask (k.hash w) K) = pt at q1 q3 q4 q5 q6 q7 q8 q9 ⊢
  obtain ⟨t1, p⟩ := pt
  dsimp only at q1 q3 q4 q5 q6 q7 q8 q9 ⊢
  subst q1
  generalize hpp : SetTable.below t.place (way t.mask (k.hash w) K) = p at q2 q3 ⊢
  have hin : (SetTable.insertAt es p (k.hash w, Value.ref x)).toList = (L.take p ++ (x, k) :: L.drop p).map (rowN w) := by
    rw [SetTable.toList_insertAt, R.rows, List.map_append, List.map_cons, List.map_take, List.map_drop]; rfl
  have pm : (L.take p ++ (x, k) :: L.drop p).Perm ((x, k) :: L) := by
    have h : (L.take p ++ (x, k) :: L.drop p).Perm ((x, k) :: (L.take p ++ L.drop p)) := List.perm_middle
    rwa [List.take_append_drop] at h
  have q3' : TabOk t1 (hsN w (L.take p ++ (x, k) :: L.drop p)) := by
    have e : hsN w (L.take p ++ (x, k) :: L.drop p) = (hsN w L).take p ++ k.hash w :: (hsN w L).drop p := by
      simp only [hsN]; rw [List.map_append, List.map_cons, List.map_take, List.map_drop]
    rw [e]; exact q3
  clear q3
  generalize L.take p ++ (x, k) :: L.drop p = L1 at hin pm q3'
  generalize SetTable.insertAt es p (k.hash w, Value.ref x) = es1 at hin ⊢
  have hlen : L1.length = L.length + 1 := pm.length_eq
  have hes : es1.size = L.length + 1 := (rows_size hin).trans hlen
  have nd1 : (L1.map (·.2)).Nodup := (pm.map (·.2)).nodup_iff.mpr (List.nodup_cons.mpr ⟨hm, R.nd⟩)
  rw [List.length_map] at q9
  -- behind the question whether its hash is by value: the table, whatever its word on that
  have go : ∀ (t2 : SetTable), TabOk t2 (hsN w L1) → t2.mask = t.mask → t2.led = t.led → t2.fill = L.length + 1 →
      wpAny (model P w) A (do
        storeSet a es1 t2
        if (!false && t2.tooFull) = true then setRelay a (SetTable.grown (es.size + 1))
        return true) Q E s := by
    intro t2 T m2 l2 f2
    have ld2 : w.params.followText "set-order" = true ∨ t2.led = true := by rw [l2]; exact R.led
    refine wpAny_bind (wpAny_storeSet_of ho hd ?_ (by rw [hes, sizeLine_eq]; omega))
    have sb : Heap.SameBut a s.heap (s.heap.update a (Obj.putSet es1 t2)) := Heap.SameBut.update ..
    have ho1 := store_at (es' := es1) (t' := t2) ho hd
    generalize s.heap.update a (Obj.putSet es1 t2) = h1 at sb ho1 ⊢
    have key1 : ∀ p ∈ L1, IsN h1 p.2 p.1 := fun p hp => by
      rcases List.mem_cons.mp (pm.mem_iff.mp hp) with e | hp
      · rw [e]; exact hx.same ho hd sb
      · exact (R.key p hp).same ho hd sb
    have hfl : t2.tooFull = decide (t2.fill * 5 ≥ t2.mask * 3) := rfl
    by_cases hf : t2.tooFull = true
    · refine wp_if_pos (by rw [hf]; rfl) (wpAny_bind ?_)
      have full : (L.length + 1) * 5 ≥ t.mask * 3 := by
        rw [hfl, decide_eq_true_eq, f2, m2] at hf; exact hf
      rw [hsl]
      have next : ∀ M, SetTable.sizeAbove (SetTable.grown (L.length + 1)) = M + 1 → MaskOk M → (L.length + 1) * 5 < M * 3 →
          wpAny (model P w) A (setRelay a (SetTable.grown (L.length + 1))) (fun _ s' => wpAny (model P w) A (pure true) Q E s') E { s with heap := h1 } := fun M e1 e2 e3 => by
        refine relayN (s := { s with heap := h1 }) (L := L1) ho1 ⟨hex.1, hex.2.1, hex.2.2⟩ rfl hin (by rw [T.sz, List.length_map, hlen, hes]) T.dm (by rw [hes, m2]; rcases R.tab.mok with e | e | e <;> omega) nd1 key1 ld2 (by omega) e1 e2 (by rw [hlen]; exact e3) ?_
        intro h2 L2 es2 ep2 t3 sb2 R2 pm2
        exact wpAny_pure (hQ true h2 L2 es2 ep2 t3 (sb.trans sb2) R2 (fun z => absurd z hm) fun _ => pm2.trans pm)
      rcases R.tab.mok with e | e | e
      · have e2 : L.length = 4 := by omega
        exact next 31 (by rw [e2, size_20]) (.inr (.inl rfl)) (by omega)
      · have e2 : L.length = 18 := by omega
        exact next 127 (by rw [e2, size_76]) (.inr (.inr rfl)) (by omega)
      · omega
    · refine wp_if_neg (by rw [Bool.eq_false_iff.mpr hf]; decide) ?_
      refine wpAny_pure (hQ true h1 L1 es1 (ep + 1) t2 sb ⟨⟨_, ho1, ⟨hex.1, hex.2.1, hex.2.2⟩, rfl⟩, hin, T, nd1, key1, ld2, ?_, by omega⟩ (fun z => absurd z hm) fun _ => pm)
      rw [hfl, decide_eq_true_eq, f2] at hf
      rw [hlen]; omega
  obtain ⟨b, hb'⟩ := hbv (P := P) (w := w) k (.ref x) 8 hx.1
  split
  · refine wpAny_bind (hb' A E _ ?_)
    cases b
    · exact go { t1 with plain := false } ⟨q3'.ris, q3'.dm, q3'.sz, q3'.mok, q3'.bd, q3'.reach⟩ q4 q5 q9
    · exact go t1 q3' q4 q5 q9
  · exact wpAny_bind (wpAny_pure (go t1 q3' q4 q5 q9))
structure GotN (ks : List (Addr × NestedKey)) (i : Nat) (L : List (Addr × NestedKey)) : Prop where
  sub : ∀ p ∈ L, p ∈ ks.take i
  all : ∀ p ∈ ks.take i, p.2 ∈ L.map (·.2)
  len : L.length ≤ i
theorem GotN.next {ks L L' : List (Addr × NestedKey)} {i : Nat} {x : Addr × NestedKey} (g : GotN ks i L) (h : ks[i]? = some x) (c1 : x.2 ∈ L.map (·.2) → L' = L) (c2 : x.2 ∉ L.map (·.2) → L'.Perm (x :: L)) : GotN ks (i + 1) L' := by
  have e : ks.take (i + 1) = ks.take i ++ [x] := by rw [List.take_succ, h]; rfl
  rcases Classical.em (x.2 ∈ L.map (·.2)) with c | c
  · rw [c1 c]
    refine ⟨fun p hp => by rw [e]; exact List.mem_append_left _ (g.sub p hp), fun p hp => ?_, Nat.le_succ_of_le g.len⟩
    rw [e] at hp
    rcases List.mem_append.mp hp with z | z
    · exact g.all p z
    · rw [List.mem_singleton.mp z]; exact c
  · have pm := c2 c
    refine ⟨fun p hp => ?_, fun p hp => ?_, by rw [pm.length_eq, List.length_cons]; exact Nat.succ_le_succ g.len⟩
    · rw [e]
      rcases List.mem_cons.mp (pm.mem_iff.mp hp) with z | z
      · rw [z]; exact List.mem_append_right _ (List.mem_singleton.mpr rfl)
      · exact List.mem_append_left _ (g.sub p z)
    · rw [(pm.map (·.2)).mem_iff, List.map_cons]
      rw [e] at hp
      rcases List.mem_append.mp hp with z | z
      · exact List.mem_cons_of_mem _ (g.all p z)
      · rw [List.mem_singleton.mp z]; exact List.mem_cons_self
theorem SetN.keep {h h' : Heap} (R : SetN w h a L es ep t) (ha : ∀ o, h.get? a = some o → h'.get? a = some o) (hk : ∀ p ∈ L, IsN h' p.2 p.1) : SetN w h' a L es ep t := by
  obtain ⟨o, ho, r⟩ := R.ob
  exact ⟨⟨o, ha o ho, r⟩, R.rows, R.tab, R.nd, hk, R.led, R.room, R.few⟩
theorem setN_new {h : Heap} {a : Addr} (ho : h.get? a = some (set0 w)) : SetN w h a [] #[] 0 (.fresh 0 0 (!w.params.followText "set-order")) where
  ob := ⟨_, ho, ⟨rfl, rfl, rfl⟩, rfl⟩
  rows := rfl
  tab := ⟨List.Pairwise.nil, rfl, rfl, .inl rfl, fun x hx => (by cases hx), fun i h j hi => (by simp at hi)⟩
  nd := List.nodup_nil
  key := fun p hp => (by cases hp)
  led := by
    show _ ∨ (!w.params.followText "set-order") = true
    cases w.params.followText "set-order" <;> simp
  room := by show 0 * 5 < 7 * 3; decide
  few := by show 0 ≤ 76; decide
theorem updN {I : Addr} {fp wr : List Addr} {G : Array GenState → Array GenState → Prop} {n : Nat} {Pv : Nat → Value → Prop} {St : Nat → Shared → Prop} {R : Result → Shared → Prop}
    (W : WalksS P w A.in1 I fp wr G n Pv St) (S : Addr) (hSf : S ∉ fp) (ks : List (Addr × NestedKey)) (hn : n = ks.length) (hfew : ks.length ≤ 76) (hval : ∀ i v, Pv i v → ∃ p, ks[i]? = some p ∧ v = .ref p.1)
    (h0 : Heap) (hk : ∀ p ∈ ks, IsN h0 p.2 p.1) (hS0 : h0.get? S = none) (hw0 : ∀ b ∈ wr, h0.get? b = none) (hu : A.in1.units + 8 < cLine) :
    ∀ (m i : Nat) (s : Shared), n - i = m → i ≤ n → St i s → (∀ b o, h0.get? b = some o → s.heap.get? b = some o) → (∃ L es ep t, SetN w s.heap S L es ep t ∧ GotN ks i L) →
      (∀ s' L es ep t, Moved (S :: wr) G s s' → SetN w s'.heap S L es ep t → GotN ks n L → R (.ok (.ret .none)) s') →
      codeAny (model P w) A (.builtin "set.update.loop" ⟨[.ref S, .ref I], []⟩) R s := by
  have hSw : S ∉ wr := fun h => hSf (W.sub _ h)
  have hsub : ∀ b ∈ wr, b ∈ S :: wr := fun b hb => List.mem_cons_of_mem _ hb
  have kM : ∀ {s s' : Shared}, Moved wr G s s' → (∀ b o, h0.get? b = some o → s.heap.get? b = some o) → ∀ b o, h0.get? b = some o → s'.heap.get? b = some o := fun hm hkp b o e =>
    hm.heap b o (fun hb => by rw [hw0 b hb] at e; cases e) (hkp b o e)
  have kK : ∀ {h : Heap}, (∀ b o, h0.get? b = some o → h.get? b = some o) → ∀ p ∈ ks, IsN h p.2 p.1 := fun hh p hp => (hk p hp).keep fun b o _ _ e _ => hh b o e
  intro m
  induction m with
  | zero =>
    intro i s hm0 hi hst hkp ⟨L, es, ep, t, hS, g⟩ hR
    obtain rfl : i = n := by omega
    refine codeAny_builtin F.entry_set_update_loop ?_
    rw [Around.under_plainId F.plain_set_update_loop _]
    show wpAny _ A.in1 (pyNext (.ref I) >>= _) _ _ s
    refine wpAny_bind (W.done s _ _ hst fun s' hm => ?_)
    show wpAny _ A.in1 (ret Value.none) _ _ s'
    exact wpAny_pure (hR s' L es ep t (hm.mono hsub) (hS.keep (fun o e => hm.heap S o hSw e) fun p hp => kK (kM hm hkp) p (List.mem_of_mem_take (g.sub p hp))) g)
  | succ m ih =>
    intro i s hm0 hi hst hkp ⟨L, es, ep, t, hS, g⟩ hR
    have hlt : i < n := by omega
    refine codeAny_builtin F.entry_set_update_loop ?_
    rw [Around.under_plainId F.plain_set_update_loop _]
    show wpAny _ A.in1 (pyNext (.ref I) >>= _) _ _ s
    refine wpAny_bind (W.item i s _ _ hlt hst fun v s' hP hst' hm => ?_)
    obtain ⟨p, hp, rfl⟩ := hval i v hP
    have hkp' := kM hm hkp
    have hS' : SetN w s'.heap S L es ep t := hS.keep (fun o e => hm.heap S o hSw e) fun q hq => kK hkp' q (List.mem_of_mem_take (g.sub q hq))
    have hx : IsN s'.heap p.2 p.1 := kK hkp' p (List.mem_of_getElem? hp)
    show wpAny _ A.in1 (holding [Value.ref p.1] (setAdd S (.ref p.1)) >>= _) _ _ s'
    refine wpAny_bind (wpAny_holding ?_)
    unfold setAdd
    refine wpAny_holding (wpAny_bind ((nestedKind P w).pyHash hu hx ?_))
    refine addN (s := { s' with toks := s'.toks + p.2.draws }) hS' hx hu (by have := g.len; omega) fun b h' L' es' ep' t' hsb hS2 c1 c2 => ?_
    have hkp2 : ∀ b o, h0.get? b = some o → h'.get? b = some o := fun b o e => (hsb.2 b (fun z => by rw [z, hS0] at e; cases e)).trans (hkp' b o e)
    refine wpAny_pure ⟨plainId_quiet F.plain_set_update_loop _, ih (i + 1) _ (by omega) hlt (W.frame _ s' _ _ hst' (Nat.le_add_right _ _) fun b hb o e => ?_) hkp2 ⟨L', es', ep', t', hS2, g.next hp c1 c2⟩ fun s'' L2 es2 ep2 t2 hm'' hS'' g'' => ?_⟩
    · rw [hsb.2 b (fun h : b = S => hSf (by rw [← h]; exact hb))]; exact e
    · refine hR s'' L2 es2 ep2 t2 (Moved.trans W.gtrans ((hm.mono hsub).then_heap (Nat.le_add_right _ _) fun b o hb e => ?_) hm'') hS'' g''
      rw [hsb.2 b (fun h : b = S => hb (by rw [h]; exact List.mem_cons_self))]; exact e
theorem setN_made {l : Addr} {items : Array Value} (ks : List (Addr × NestedKey)) {Q : Value → Shared → Prop} (hh : A.handled = none) (hl : s.heap.IsList l items) (hit : items.toList = ks.map fun p => Value.ref p.1)
    (hk : ∀ p ∈ ks, IsN s.heap p.2 p.1) (hfew : ks.length ≤ 76) (hu : A.units + 11 < cLine)
    (h : ∀ (h' : Heap) (tk : Nat) L es ep t, SetN w h' s.heap.objs.size L es ep t → GotN ks ks.length L → (∀ b o, s.heap.get? b = some o → h'.get? b = some o) → Q (.ref s.heap.objs.size) { s with heap := h', toks := tk }) :
    wpAny (model P w) A (call (.type "set") [.ref l]) Q E s := by
  have hisz : items.size = ks.length := by rw [← Array.length_toList, hit, List.length_map]
  have hlS : l < s.heap.objs.size := by obtain ⟨ol, hol, _⟩ := hl; exact Heap.lt_size hol
  have hz1 : (s.heap.push (set0 w)).objs.size = s.heap.objs.size + 1 := Heap.size_push ..
  have none_of : ∀ b, s.heap.objs.size ≤ b → s.heap.get? b = none := fun b hb => by
    cases q : s.heap.get? b with
    | none => rfl
    | some o => exact absurd (Nat.lt_of_lt_of_le (Heap.lt_size q) hb) (Nat.lt_irrefl _)
  refine set_made (T := fun h' => ∃ L es ep t, SetN w h' s.heap.objs.size L es ep t ∧ GotN ks ks.length L) hh hl (fun R hl2 hR => ?_) fun h' tk ⟨L, es, ep, t, hS, g⟩ hk => h h' tk L es ep t hS g hk
  have hh3 : A.in1.in1.in1.handled = none := by simp [hh]
  refine updN ((Walks.list hh3 (s.heap.objs.size + 1) l (Nat.ne_of_lt (Nat.lt_succ_of_lt hlS)) items).toS) s.heap.objs.size ?_ ks hisz hfew (fun i v hv => ?_) s.heap hk (none_of _ (Nat.le_refl _)) (fun b hb => none_of b (by rw [List.mem_singleton.mp hb]; exact Nat.le_succ _)) ?_ (items.size - 0) 0 _ (by omega) (Nat.zero_le _) ⟨⟨lit0 l, ?_, rfl, rfl⟩, hl2⟩ (fun b o e => Heap.get?_push_of_some _ (Heap.get?_push_of_some _ e)) ⟨[], #[], 0, _, setN_new ?_, ⟨fun p h => (by cases h), fun p h => (by simp at h), Nat.le_refl _⟩⟩ fun s' L es ep t hm hS g => hR s' hm ⟨L, es, ep, t, hS, hisz ▸ g⟩
  · simp only [List.mem_cons, List.not_mem_nil, or_false, not_or]; exact ⟨Nat.ne_of_lt (Nat.lt_succ_self _), Nat.ne_of_gt hlS⟩
  · have q : items.toList[i]? = some v := by rw [Array.getElem?_toList]; exact hv
    rw [hit, List.getElem?_map] at q
    cases hq : ks[i]? with
    | none => rw [hq] at q; cases q
    | some p => rw [hq] at q; exact ⟨p, rfl, (Option.some.inj q).symm⟩
  · simp only [Around.in1_units]; omega
  · rw [← hz1]; exact Heap.get?_push_size _ rfl
  · exact Heap.get?_push_of_some _ (Heap.get?_push_size _ rfl)
end
end DL
end
section
set_option maxHeartbeats 0
namespace DL
open PySem PySem.Spec PyProof.Rows L2
mutual
def nkOk : D → Nat → Bool
  | .int _, _ => true
  | .str s, _ => okS s
  | .tup xs, n + 1 => nkOks xs n
  | _, _ => false
def nkOks : List D → Nat → Bool
  | [], _ => true
  | x :: xs, n => nkOk x n && nkOks xs n
end
mutual
def toNK : D → NestedKey
  | .int i => .num i
  | .str s => .text s
  | .tup xs => .tup (toNKs xs)
  | _ => .none
def toNKs : List D → List NestedKey
  | [] => []
  | x :: xs => toNK x :: toNKs xs
end
mutual
theorem nk_dok : ∀ (d : D) (n : Nat), nkOk d n = true → dOk d n = true
  | .int _, _, _ => rfl
  | .str s, _, h => by simpa [nkOk, dOk] using h
  | .tup xs, 0, h => by simp [nkOk] at h
  | .tup xs, n + 1, h => by rw [dOk]; exact nks_doks xs n (by simpa [nkOk] using h)
  | .non, _, h => by simp [nkOk] at h
  | .bl _, _, h => by simp [nkOk] at h
  | .lst _, _, h => by simp [nkOk] at h
  | .ref _, _, h => by simp [nkOk] at h
  | .scr _, _, h => by simp [nkOk] at h
  | .ty _, _, h => by simp [nkOk] at h
theorem nks_doks : ∀ (xs : List D) (n : Nat), nkOks xs n = true → dOks xs n = true
  | [], _, _ => rfl
  | x :: xs, n, h => by
    have h' : nkOk x n = true ∧ nkOks xs n = true := by simpa [nkOks] using h
    rw [dOks, nk_dok x n h'.1, nks_doks xs n h'.2]; rfl
end
mutual
theorem nk_depth : ∀ (d : D) (n : Nat), nkOk d n = true → (toNK d).depth ≤ n
  | .int _, _, _ => by simp [toNK, NestedKey.depth]
  | .str s, _, h => by simp [toNK, NestedKey.depth]
  | .tup xs, 0, h => by simp [nkOk] at h
  | .tup xs, n + 1, h => by
    have := nks_depth xs n (by simpa [nkOk] using h)
    simp only [toNK, NestedKey.depth]; omega
  | .non, _, h => by simp [nkOk] at h
  | .bl _, _, h => by simp [nkOk] at h
  | .lst _, _, h => by simp [nkOk] at h
  | .ref _, _, h => by simp [nkOk] at h
  | .scr _, _, h => by simp [nkOk] at h
  | .ty _, _, h => by simp [nkOk] at h
theorem nks_depth : ∀ (xs : List D) (n : Nat), nkOks xs n = true → NestedKey.depthAll (toNKs xs) ≤ n
  | [], _, _ => by simp [toNKs, NestedKey.depthAll]
  | x :: xs, n, h => by
    have h' : nkOk x n = true ∧ nkOks xs n = true := by simpa [nkOks] using h
    have h1 := nk_depth x n h'.1
    have h2 := nks_depth xs n h'.2
    simp only [toNKs, NestedKey.depthAll]; omega
end
mutual
theorem nk_inj : ∀ (d e : D) (n k : Nat), nkOk d n = true → nkOk e k = true → toNK d = toNK e → d = e
  | .int i, e, n, k, _, he, h => by cases e <;> simp [toNK, nkOk] at h he ⊢ <;> exact h
  | .str s, e, n, k, _, he, h => by cases e <;> simp [toNK, nkOk] at h he ⊢ <;> exact h
  | .tup xs, e, 0, k, hd, he, h => by simp [nkOk] at hd
  | .tup xs, e, n + 1, k, hd, he, h => by
    cases e with
    | tup ys =>
      cases k with
      | zero => simp [nkOk] at he
      | succ k =>
        simp only [toNK, NestedKey.tup.injEq] at h
        rw [nks_inj xs ys n k (by simpa [nkOk] using hd) (by simpa [nkOk] using he) h]
    | _ => simp [toNK, nkOk] at h he
  | .non, _, _, _, h, _, _ => by simp [nkOk] at h
  | .bl _, _, _, _, h, _, _ => by simp [nkOk] at h
  | .lst _, _, _, _, h, _, _ => by simp [nkOk] at h
  | .ref _, _, _, _, h, _, _ => by simp [nkOk] at h
  | .scr _, _, _, _, h, _, _ => by simp [nkOk] at h
  | .ty _, _, _, _, h, _, _ => by simp [nkOk] at h
theorem nks_inj : ∀ (xs ys : List D) (n k : Nat), nkOks xs n = true → nkOks ys k = true → toNKs xs = toNKs ys → xs = ys
  | [], [], _, _, _, _, _ => rfl
  | [], _ :: _, _, _, _, _, h => by simp [toNKs] at h
  | _ :: _, [], _, _, _, _, h => by simp [toNKs] at h
  | x :: xs, y :: ys, n, k, hx, hy, h => by
    have h1 : nkOk x n = true ∧ nkOks xs n = true := by simpa [nkOks] using hx
    have h2 : nkOk y k = true ∧ nkOks ys k = true := by simpa [nkOks] using hy
    simp only [toNKs, List.cons.injEq] at h
    rw [nk_inj x y n k h1.1 h2.1 h.1, nks_inj xs ys n k h1.2 h2.2 h.2]
end
mutual
theorem reads_nk {h : Heap} : ∀ (d : D) (n : Nat) (v : Value) (as : List Addr), nkOk d n = true → Reads h v (toPy d) as → NestedIs h (toNK d) v ∧ as = []
  | .int i, n, v, as, _, r => by
    have r' : Reads h v (.int i) as := r
    cases r'; exact ⟨.int _ _, rfl⟩
  | .str s, n, v, as, _, r => by
    have r' : Reads h v (.str s) as := r
    cases r'; exact ⟨.text _ _, rfl⟩
  | .tup xs, 0, v, as, hd, r => by simp [nkOk] at hd
  | .tup xs, n + 1, v, as, hd, r => by
    have r' : Reads h v (.tuple (toPys xs)) as := r
    cases r' with
    | tuple h1 h2 h3 h4 =>
      obtain ⟨a1, a2⟩ := reads_nks xs n _ _ (by simpa [nkOk] using hd) h4
      exact ⟨.tup h1 h2 h3 a1, a2⟩
  | .non, n, v, as, hd, r => by simp [nkOk] at hd
  | .bl _, n, v, as, hd, r => by simp [nkOk] at hd
  | .lst _, n, v, as, hd, r => by simp [nkOk] at hd
  | .ref _, n, v, as, hd, r => by simp [nkOk] at hd
  | .scr _, n, v, as, hd, r => by simp [nkOk] at hd
  | .ty _, n, v, as, hd, r => by simp [nkOk] at hd
theorem reads_nks {h : Heap} : ∀ (xs : List D) (n : Nat) (vs : List Value) (as : List Addr), nkOks xs n = true → ReadsAll h vs (toPys xs) as → NestedAll h (toNKs xs) vs ∧ as = []
  | [], n, vs, as, _, r => by
    have r' : ReadsAll h vs [] as := r
    cases r'; exact ⟨.nil, rfl⟩
  | x :: xs, n, vs, as, hd, r => by
    have h1 : nkOk x n = true ∧ nkOks xs n = true := by simpa [nkOks] using hd
    have r' : ReadsAll h vs (toPy x :: toPys xs) as := r
    cases r' with
    | cons p q =>
      obtain ⟨a1, a2⟩ := reads_nk x n _ _ h1.1 p
      obtain ⟨b1, b2⟩ := reads_nks xs n _ _ h1.2 q
      subst a2 b2
      exact ⟨.cons a1 b1, rfl⟩
end
def adr : V → Addr
  | .ref a => a
  | _ => 0
def keyZ (z : V × D) : Addr × NestedKey := (adr z.1, toNK z.2)
theorem pick_map {α β : Type} {f : α → β} {xs : List α} : ∀ {L : List β}, (∀ p ∈ L, p ∈ xs.map f) → ∃ ys : List α, L = ys.map f ∧ ∀ y ∈ ys, y ∈ xs
  | [], _ => ⟨[], rfl, fun _ h => by cases h⟩
  | p :: L, h => by
    obtain ⟨x, hx, e⟩ := List.mem_map.mp (h p List.mem_cons_self)
    obtain ⟨ys, e2, h2⟩ := pick_map (L := L) fun q hq => h q (List.mem_cons_of_mem _ hq)
    refine ⟨x :: ys, by rw [List.map_cons, e, e2], fun y hy => ?_⟩
    rcases List.mem_cons.mp hy with z | z
    · rw [z]; exact hx
    · exact h2 y z
section
variable {P : Program} {w : World} {A : Around} {E : Value → Shared → Prop} {s : Shared}
theorem each_refs : ∀ (zs : List (V × D)), PySem.W.EachIs (fun (u : Value) (b : V × D) => u = Value.ref (adr b.1)) (zs.map fun z => Value.ref (adr z.1)) zs
  | [] => .nil
  | z :: zs => .cons rfl (each_refs zs)
theorem refs_each : ∀ {us : List Value} {zs : List (V × D)}, PySem.W.EachIs (fun (u : Value) (b : V × D) => u = Value.ref (adr b.1)) us zs → us = zs.map fun z => Value.ref (adr z.1)
  | _, _, .nil => rfl
  | _, _, .cons h t => by rw [List.map_cons, ← refs_each t, ← h]
theorem setN_sorted {a : Addr} {L : List (Addr × NestedKey)} {es : Array (Int × Value)} {ep : Nat} {t : SetTable} {Q : Value → Shared → Prop} (R : SetN w s.heap a L es ep t) (hh : A.handled = none) {zL : List (V × D)} (hL : L = zL.map keyZ)
    (hrd : ∀ z ∈ zL, Reads s.heap (.ref (adr z.1)) (toPy z.2) []) (hal : ∀ x ∈ zL, ∀ y ∈ zL, alikeD x.2 y.2 = true) (hso : ∀ z ∈ zL, ∃ x r, z.2 = .tup (x :: r)) (hdp : ∀ z ∈ zL, (toPy z.2).depth ≤ 8) (hu : A.units + 20 < cLine)
    (hQ : ∀ (s' : Shared) (p : Addr) (c : Nat) (zs : List (V × D)), (∀ b o, s.heap.get? b = some o → s'.heap.get? b = some o) → s'.gens = s.gens → s'.os = s.os → s.heap.objs.size ≤ p → s'.heap.get? p = some (seqObj "list" (zs.map fun z => Value.ref (adr z.1)).toArray c) → zs.Perm zL → zs.Pairwise (fun x y => ltD y.2 x.2 = false) → Q (.ref p) s') :
    wpAny (model P w) A (call (.builtin "sorted") [.ref a]) Q E s := by
  obtain ⟨o, ho, hex, hd⟩ := R.ob
  have hsz := rows_size R.rows
  have hfew := R.few
  refine Calls.call_function_entry kind_sorted plain_sorted entry_sorted (args_sorted1 _) ?_
  unfold Builtin.«sorted»
  refine wpAny_bind (m := checkCount "sorted" 1 1 _) (wpAny_pure (wpAny_bind (collect_set (A := A.in1) hh ⟨o, ho, hex.1, hd⟩ R.fits (by unfold scanBound; omega) R.tab.ris R.led fun s1 vs k1 hz g1 o1 pm => ?_)))
  have hes : es.toList.map (·.2) = zL.map fun z => Value.ref (adr z.1) := by
    rw [R.rows, hL, List.map_map, List.map_map]; rfl
  rw [hes] at pm
  obtain ⟨z1, rfl, pz⟩ := perm_map pm
  have hl1 : z1.length ≤ 76 := by rw [pz.length_eq, ← List.length_map (as := zL) (f := keyZ), ← hL]; exact hfew
  have hvl : (z1.map fun z => Value.ref (adr z.1)).length ≤ sizeLine := by rw [List.length_map, sizeLine_eq]; omega
  refine wpAny_bind (wpAny_newList ?_ hvl)
  have hoL : (s1.heap.push (seqObj "list" (z1.map fun z => Value.ref (adr z.1)).toArray 0)).get? s1.heap.objs.size = some (seqObj "list" (z1.map fun z => Value.ref (adr z.1)).toArray 0) := Heap.get?_push_size _ rfl
  have er : ∀ zs : List (V × D), (∀ z ∈ zs, z ∈ zL) → PySem.W.EachIs (fun (u : Value) (b : V × D) => ∃ as, Reads (s1.heap.push (seqObj "list" (z1.map fun z => Value.ref (adr z.1)).toArray 0)) u (toPy b.2) as ∧ s1.heap.objs.size ∉ as) (zs.map fun z => Value.ref (adr z.1)) zs := by
    intro zs
    induction zs with
    | nil => exact fun _ => .nil
    | cons z zs ih => exact fun h => .cons ⟨[], PyProof.Rows.Reads.keeps (fun b u e => Heap.get?_push_of_some _ (k1 b u e)) (hrd z (h z List.mem_cons_self)), by simp⟩ (ih fun y hy => h y (List.mem_cons_of_mem _ hy))
  refine wpAny_bind (wpAny_holding (PySem.W.list_sort_data (s := { s1 with heap := s1.heap.push (seqObj "list" (z1.map fun z => Value.ref (adr z.1)).toArray 0) }) (enc := fun b : V × D => toPy b.2) hoL (each_refs z1) (er z1 fun z hz => pz.mem_iff.mp hz) ?_ ?_ (by rw [sizeLine_eq]; omega) (fun z hz => ?_) fun out hol he => ?_))
  · intro d hd d' hd'
    obtain ⟨x, h1, rfl⟩ := List.mem_map.mp hd
    obtain ⟨y, h2, rfl⟩ := List.mem_map.mp hd'
    exact hal _ (pz.mem_iff.mp h1) _ (pz.mem_iff.mp h2)
  · left
    intro d hd
    obtain ⟨z, h1, rfl⟩ := List.mem_map.mp hd
    obtain ⟨x, r, e⟩ := hso z (pz.mem_iff.mp h1)
    exact ⟨toPy x, toPys r, by rw [e]; rfl⟩
  · have := hdp z (pz.mem_iff.mp hz)
    simp only [Around.in1_units]; omega
  · have hp : (z1.mergeSort (PySem.W.dataLe false fun b : V × D => toPy b.2)).Perm z1 := List.mergeSort_perm _ _
    have hsort : (z1.mergeSort (PySem.W.dataLe false fun b : V × D => toPy b.2)).Pairwise (fun x y => ltD y.2 x.2 = false) := by
      have T := PySem.W.sortLe_total (listOrd itemOrd) false (fun b : V × D => PySem.W.keyToks (toPy b.2))
      have h := List.pairwise_mergeSort (le := PySem.W.dataLe false fun b : V × D => toPy b.2) T.trans (fun a b => by rw [Bool.or_eq_true]; exact T.total a b) z1
      exact h.imp fun {x y} h => by
        simp only [PySem.W.dataLe_eq, cond_false, Bool.not_eq_true'] at h
        exact h
    generalize z1.mergeSort (PySem.W.dataLe false fun b : V × D => toPy b.2) = zs at hp hsort he
    rw [refs_each he]
    obtain ⟨c, hc⟩ := sortedHeap_at (vs := z1.map fun z => Value.ref (adr z.1)) (out := (zs.map fun z => Value.ref (adr z.1)).toArray) hoL
    refine wpAny_pure ⟨_, rfl, hQ _ s1.heap.objs.size c zs (fun b u e => ?_) g1 o1 hz hc (hp.trans pz) hsort⟩
    have hlt := Heap.lt_size (k1 b u e)
    show (sortedHeap (s1.heap.push (seqObj "list" (z1.map fun z => Value.ref (adr z.1)).toArray 0)) s1.heap.objs.size (z1.map fun z => Value.ref (adr z.1)) (zs.map fun z => Value.ref (adr z.1)).toArray).get? b = some u
    rw [sortedHeap_old (Nat.ne_of_lt hlt) (by rw [size_push']; exact Nat.lt_succ_of_lt hlt)]
    exact Heap.get?_push_of_some _ (k1 b u e)
end
section
variable {X : Cx}
structure SetItems (ds : List D) : Prop where
  nk : ∀ d ∈ ds, nkOk d 8 = true
  al : ∀ x ∈ ds, ∀ y ∈ ds, alikeD x y = true
  so : ∀ d ∈ ds, ∃ x r, d = .tup (x :: r)
  few : ds.length ≤ 76
def tSrtSetN (K : PySem.W.Frag) (ta : TE) : TE := fun σ H Q => ta σ H fun x H1 => ∃ (l : Addr) (xs : List V) (ds : List D), x = .ref l ∧ SqL K H1 l xs ∧ L2.DpAll K H1 xs (toPys ds) ∧ xs.length = ds.length ∧ SetItems ds ∧
  ∀ (zs : List (V × D)) (p : Addr), (∀ z ∈ zs, z ∈ xs.zip ds) → (zs.map (·.2)).Nodup → (∀ d ∈ ds, d ∈ zs.map (·.2)) → zs.Pairwise (fun x y => ltD y.2 x.2 = false) → H1 p = none → Q (.ref p) (upd H1 p (.lst (zs.map (·.1))))
theorem pe_srtSetN {a : Expr} {ta : TE} {p p2 q pos : Pos} (hc : X.calm = true) (hu : X.A.units + 64 < cLine) (hg : Gl X "sorted") (hm : X.mg "sorted" = none) (hg2 : Gl X "set") (hm2 : X.mg "set" = none) (ha : PE X a ta)
    (na : starEach [a] X.env = (false, eval a X.env) :: starEach [] X.env := by rfl) : PE X (.Call (.Name "sorted" p) [.Call (.Name "set" p2) [a] [] q] [] pos) (tSrtSetN X.K ta) := by
  refine ⟨fun pins s σ H Q I h => ?_⟩
  refine Call_ (ld_blt I hg hm PyProof.Rows.boot_sorted (PyProof.Rows.callWith_builtin1 (PyProof.Rows.args_cons ?_ rfl) rfl rfl))
  refine Call_ (ld_blt I hg2 hm2 PyProof.Rows.boot_set (PyProof.Rows.callWith_type1 (PyProof.Rows.args_cons (thn (ha.run pins s σ H _ I h) fun v s1 ⟨x, H1, I1, r1, q1⟩ => PyProof.Rows.args_nil ?_) na) na rfl))
  obtain ⟨l, xs, ds, rfl, hq, hD, hlen, hI, q1⟩ := q1
  cases r1
  obtain ⟨its, rv, pl, hz⟩ := I1.list hq
  -- each item: its address, what it reads as
  have facts : ∀ {xs : List V} {us : List Value} {ds : List D}, Vals xs us → L2.DpAll X.K H1 xs (toPys ds) → xs.length = ds.length → (∀ d ∈ ds, nkOk d 8 = true) → (∀ d ∈ ds, ∃ x r, d = .tup (x :: r)) →
      us = (xs.zip ds).map (fun z => Value.ref (adr z.1)) ∧ (xs = (xs.zip ds).map (·.1)) ∧ (∀ z ∈ xs.zip ds, z.1 = .ref (adr z.1) ∧ Reads s1.heap (.ref (adr z.1)) (toPy z.2) []) := by
    intro xs us ds h1
    induction h1 generalizing ds with
    | nil => exact fun _ _ _ _ => ⟨by simp, by simp, fun z hz => by simp at hz⟩
    | @cons x u xs us r t ih =>
      intro h2 h3 h4 h5
      cases ds with
      | nil => simp at h3
      | cons d ds =>
        cases h2 with
        | cons p q =>
          obtain ⟨a1, a2, a3⟩ := ih q (by simpa using h3) (fun e he => h4 e (List.mem_cons_of_mem _ he)) (fun e he => h5 e (List.mem_cons_of_mem _ he))
          obtain ⟨y, rr, e⟩ := h5 d List.mem_cons_self
          obtain ⟨as, rd⟩ := Dp.reads I1 (toPy d) x u p r
          obtain ⟨_, eas⟩ := reads_nk d 8 u as (h4 d List.mem_cons_self) rd
          subst eas
          obtain ⟨b, eb⟩ : ∃ b, u = .ref b := by
            rw [e] at rd
            have rd' : Reads s1.heap u (.tuple (toPys (y :: rr))) [] := rd
            cases rd' with | tuple _ _ _ _ => exact ⟨_, rfl⟩
          subst eb
          have ex : x = .ref b := by
            rw [e] at p
            have p' : L2.Dp X.K H1 x (.tuple (toPys (y :: rr))) := p
            cases p' with | tup _ _ => cases r; rfl
          subst ex
          refine ⟨by rw [a1]; rfl, by rw [List.zip_cons_cons, List.map_cons, ← a2], fun z hz => ?_⟩
          rcases List.mem_cons.mp hz with ez | ez
          · rw [ez]; exact ⟨rfl, rd⟩
          · exact a3 z ez
  obtain ⟨f1, f2, f3⟩ := facts rv hD hlen hI.nk hI.so
  have hzd : ∀ z ∈ xs.zip ds, z.2 ∈ ds := fun z hz => (List.of_mem_zip hz).2
  have hks : ∀ p ∈ (xs.zip ds).map keyZ, IsN s1.heap p.2 p.1 := fun p hp => by
    obtain ⟨z, hz, rfl⟩ := List.mem_map.mp hp
    exact ⟨(reads_nk z.2 8 _ _ (hI.nk _ (hzd z hz)) (f3 z hz).2).1, nk_depth z.2 8 (hI.nk _ (hzd z hz))⟩
  have hzl : (xs.zip ds).length = ds.length := by rw [List.length_zip, hlen]; simp
  refine setN_made ((xs.zip ds).map keyZ) (I1.ok.hd hc) pl.isList (by rw [f1, List.map_map]; rfl) hks (by rw [List.length_map, hzl]; exact hI.few) (by omega) fun h' tk L es ep t hS g hk => ?_
  refine PyProof.Rows.args_nil ?_
  obtain ⟨zL, eL, hin⟩ := pick_map (f := keyZ) (xs := xs.zip ds) (L := L) fun p hp => List.mem_of_mem_take (g.sub p hp)
  refine setN_sorted (s := { s1 with heap := h', toks := tk }) hS (I1.ok.hd hc) eL (fun z hz => PyProof.Rows.Reads.keeps hk (f3 z (hin z hz)).2) (fun x hx y hy => hI.al _ (hzd x (hin x hx)) _ (hzd y (hin y hy))) (fun z hz => hI.so _ (hzd z (hin z hz))) (fun z hz => (toPy_lay z.2 8 (nk_dok _ _ (hI.nk _ (hzd z (hin z hz))))).2) (by omega) fun s' p c zs k g1 o hp hg pm hs => ?_
  have hzin : ∀ z ∈ zs, z ∈ xs.zip ds := fun z hz => hin z (pm.mem_iff.mp hz)
  have k2 : ∀ b u, s1.heap.get? b = some u → s'.heap.get? b = some u := fun b u e => k b u (hk b u e)
  have hp1 : s1.heap.objs.size ≤ p := by
    obtain ⟨o, ho, _⟩ := hS.ob
    exact Nat.le_trans (Nat.le_of_lt (Heap.lt_size ho)) hp
  have hn : H1 p = none := I1.hok.fresh hp1
  have hfew : (zs.map (·.1)).length ≤ sizeLine := by
    rw [List.length_map, pm.length_eq, ← List.length_map (as := zL) (f := keyZ), ← eL, sizeLine_eq]
    have := hS.few; omega
  have hv : Vals (zs.map (·.1)) (zs.map fun z => Value.ref (adr z.1)) := by
    clear hs pm hg hfew
    induction zs with
    | nil => exact .nil
    | cons z zs ih =>
      refine .cons ?_ (ih fun y hy => hzin y (List.mem_cons_of_mem _ hy))
      have e := (f3 z (hzin z List.mem_cons_self)).1
      show L2.RelV z.1 (Value.ref (adr z.1))
      generalize adr z.1 = b at e ⊢
      rw [e]; rfl
  have J : Inv X pins σ (upd H1 p (.lst (zs.map (·.1)))) { s1 with heap := s'.heap, gens := s'.gens, drawn := s'.drawn, toks := s'.toks } :=
    I1.call (ch := []) (Un.laid k2 hp1 hn) (I1.hok.laid k2 hp1 ⟨hfew, _, c, hv, hg⟩) (by rw [g1]; exact I1.bare) (fun _ z => nomatch z)
  have e : s' = { s1 with heap := s'.heap, gens := s'.gens, drawn := s'.drawn, toks := s'.toks } := by
    cases s'; cases s1; cases o; rfl
  rw [e]
  have hkn : ∀ x ∈ zL, ∀ y ∈ zL, toNK x.2 = toNK y.2 → x.2 = y.2 := fun x hx y hy e => nk_inj _ _ 8 8 (hI.nk _ (hzd x (hin x hx))) (hI.nk _ (hzd y (hin y hy))) e
  refine ⟨.ref p, _, J, rfl, q1 zs p hzin ?_ (fun d hd => ?_) hs hn⟩
  · have nd : (zL.map fun z => toNK z.2).Nodup := by
      have := hS.nd
      rw [eL, List.map_map] at this
      exact this
    have nd2 : (zL.map (·.2)).Nodup := by
      refine List.pairwise_map.mpr ((List.pairwise_map.mp nd).imp_of_mem fun {x y} hx hy h e => h (by rw [e]))
    exact (pm.map (·.2)).nodup_iff.mpr nd2
  · obtain ⟨i, hi, e⟩ := List.getElem_of_mem hd
    have hi2 : i < xs.length := by omega
    have hz : (xs[i], ds[i]) ∈ xs.zip ds := by
      refine List.mem_iff_getElem.mpr ⟨i, by rw [hzl]; exact hi, ?_⟩
      rw [List.getElem_zip]
    have := g.all (keyZ (xs[i], ds[i])) (by rw [List.take_length]; exact List.mem_map.mpr ⟨_, hz, rfl⟩)
    rw [eL, List.map_map] at this
    obtain ⟨z, hz1, e2⟩ := List.mem_map.mp this
    have e3 : toNK z.2 = toNK (ds[i]) := e2
    have e4 : z.2 = d := by
      rw [← e]
      exact nk_inj _ _ 8 8 (hI.nk _ (hzd z (hin z hz1))) (hI.nk _ (List.getElem_mem hi)) e3
    exact List.mem_map.mpr ⟨z, pm.mem_iff.mpr hz1, e4⟩
def wSrtSetD (b : Bool) (a : WE) : WE := fun r m R x => a r m (fun u m1 => ∃ ds : List D, asL m1 u = some ds ∧ SetItems ds ∧ ∀ es : List D, es.Nodup → (∀ d, d ∈ es ↔ d ∈ ds) → es.Pairwise (fun x y => ltD y x = false) → wNw b es m1 R) x
theorem pd_srtSetD {W : WX} {b : Bool} {a : Expr} {fa : WE} {p p2 q pos : Pos} (hc : X.calm = true) (hu : X.A.units + 64 < cLine) (hg : Gl X "sorted") (hm : X.mg "sorted" = none) (hg2 : Gl X "set") (hm2 : X.mg "set" = none) (ha : PE X a (up X.K W fa))
    (na : starEach [a] X.env = (false, eval a X.env) :: starEach [] X.env := by rfl) : PE X (.Call (.Name "sorted" p) [.Call (.Name "set" p2) [a] [] q] [] pos) (up X.K W (wSrtSetD b fa)) := PE.imp (pe_srtSetN hc hu hg hm hg2 hm2 ha na) fun σ H Q h => by
  obtain ⟨B, ρ, m, R, x, er, S, h, t, tx⟩ := h
  refine ⟨B, ρ, m, _, x, er, S, h, fun B1 d m1 u H1 s1 S1 f1 p1 q1 => ?_, tx⟩
  obtain ⟨ds, h1, hI, h2⟩ := q1
  obtain ⟨l, vs, rfl, hl, pa⟩ := seqL S1 p1 h1
  have hlen := pa.length
  have hok : dOks ds 8 = true := by
    have : ∀ {l : List D}, (∀ d ∈ l, dOk d 8 = true) → dOks l 8 = true := fun {l} h => by
      induction l with
      | nil => rfl
      | cons a l ih => rw [dOks, h a List.mem_cons_self, ih fun d hd => h d (List.mem_cons_of_mem _ hd)]; rfl
    exact this fun d hd => nk_dok d 8 (hI.nk d hd)
  refine ⟨l, vs, ds, rfl, .inl (.inl hl), toPys_dp S1.same pa hok, hlen, hI, fun zs q z1 z2 z3 z4 nq => ?_⟩
  have hz : DpAll X.K B1 (zs.map (·.1)) (zs.map (·.2)) := zip_dp fun z hz => dp_zip pa z (z1 z hz)
  refine eff_nw S1 (t.step s1 f1) hz (h2 (zs.map (·.2)) z2 (fun d => ⟨fun hd => ?_, z3 d⟩) (List.pairwise_map.mpr z4)) q nq
  obtain ⟨z, hz, rfl⟩ := List.mem_map.mp hd
  exact (List.of_mem_zip (z1 z hz)).2
end
end DL
end
section
set_option maxHeartbeats 0
namespace DL
open PySem PySem.Spec PyProof.Rows L2
def wCountD : WM := fun d us m R => match us with
  | [y] => ∃ xs, asL m d = some xs ∧ dOk y 59 = true ∧ dOks xs 59 = true ∧ R (.int ((xs.countP fun z => eqD z y : Nat) : Int)) m
  | _ => False
section
variable {X : Cx} {K : PySem.W.Frag} {B H : Hp} {m : Store}
def rCountD (K : PySem.W.Frag) : V → List V → Hp → VK → Prop := fun x xs H Q => ∃ (a : Addr) (y : V) (d : PyData) (vs : List V) (ds : List PyData), x = V.ref a ∧ xs = [y] ∧ SqL K H a vs ∧ L2.DpAll K H vs ds ∧ L2.Dp K H y d ∧
  SeqAt.shaped (.list ds) = true ∧ SeqAt.shaped d = true ∧ Q (.int ((ds.countP fun z => PyData.eqv z d : Nat) : Int)) H
theorem mt_countD (hu : X.A.units + 65 < cLine) : MtR X "list.count" (rCountD X.K) := by
  intro pins s σ H x xs v us Q I rx rxs h
  obtain ⟨a, y, d, vs, ds, rfl, rfl, hs, ha, hy, sl, sd, q⟩ := h
  cases rx
  obtain ⟨uy, rfl, ry⟩ := rxs.one
  obtain ⟨bs, r1⟩ := Dp.reads I d y uy hy ry
  have hxs : PyData.canLayAll0 ds = true := SeqAt.canLay_of_shaped sl
  have hroom : X.A.units + 1 + min (PyData.depthAll ds) d.depth < cLine := room_in_shaped sd hu
  obtain ⟨its, rv, ⟨⟨cls, dd, data, sl'⟩, n, ho, hc, hdn, hd⟩, hlen⟩ := I.list hs
  simp only at hc hd
  subst hc hd
  obtain ⟨as, h4⟩ := Dp.readsAll I ds _ its ha rv
  have hmap : its.map (SeqAt.readOf s.heap) = ds := SeqAt.readsAll_map ds its as hxs h4
  refine call_meets PySem.F.slot_list_count ⟨_, ho, rfl⟩ PySem.F.entry_list_count (PySem.F.args_list_count_2 _ _)
    (SeqAt.list_countAt a its.toArray n dd sl' uy (fun u => PyData.eqv (SeqAt.readOf s.heap u) d)) ⟨ho, SeqAt.items_eqAt (vs := its.toArray) (show ReadsAll s.heap its.toArray.toList ds as from h4) r1 hxs (SeqAt.canLay_of_shaped sd) hroom, ?_⟩
  refine ⟨.int ((ds.countP fun z => PyData.eqv z d : Nat) : Int), H, I.tok _, ⟨s.toks, ?_⟩, q⟩
  rw [← hmap, List.countP_map]; rfl
theorem countP_py {y : D} {k : Nat} (hy : dOk y k = true) : ∀ {xs : List D} {n : Nat}, dOks xs n = true → ((toPys xs).countP fun z => PyData.eqv z (toPy y)) = xs.countP fun z => eqD z y
  | [], _, _ => rfl
  | x :: xs, n, h => by
    have h' : dOk x n = true ∧ dOks xs n = true := by simpa [dOks] using h
    rw [toPys, List.countP_cons, List.countP_cons, toPy_eq _ _ _ _ h'.1 hy, countP_py hy h'.2]
theorem countD_ (hu : X.A.units + 65 < cLine) : MtD X "list.count" wCountD := by
  refine ⟨_, mt_countD hu, fun B u d us ds p ps H m R Q S h t => ?_⟩
  match ds, h with
  | [y], h =>
    obtain ⟨v, rfl, q⟩ := one_arg ps rfl
    obtain ⟨xs, h1, h2, h3, h4⟩ := h
    obtain ⟨a, vs, rfl, ha, pa⟩ := seqL S p h1
    have hs : dOk (.lst xs) 60 = true := by rw [dOk]; exact h3
    exact ⟨a, v, toPy y, vs, toPys xs, rfl, rfl, .inl (.inl ha), toPys_dp S.same pa h3, toPy_dp S.same q h2, toPy_shaped (d := .lst xs) hs (by decide), toPy_shaped h2 (by decide), by rw [countP_py h2 h3]; exact eff_ret S t (.int _) h4⟩
end
end DL
end
section
set_option maxHeartbeats 0
namespace DL
open PySem
structure Sk where
  row : Int
  place : Int
  sign : Nat
  red : Bool
deriving DecidableEq
def skOf (k : Mk) : Sk := ⟨k.row, k.place, k.sign, k.red⟩
def skD (s : Sk) : D := .tup [.int s.row, .int s.place, ch s.sign, colD s.red]
theorem mkB_sk (k : Mk) : mkB k = skD (skOf k) := rfl
def skLt (a b : Sk) : Bool := decide (a.row < b.row) || (decide (a.row = b.row) && (decide (a.place < b.place) || (decide (a.place = b.place) && (decide (a.sign < b.sign) || (decide (a.sign = b.sign) && (!a.red && b.red))))))
def dd {α : Type} [DecidableEq α] : List α → List α
  | [] => []
  | a :: l => if a ∈ l then dd l else a :: dd l
def uniqS (ss : List Sk) : List Sk := (dd ss).mergeSort (fun a b => !skLt b a)
def lookS (ss : List Sk) : List (Sk × Nat) := (uniqS ss).map fun s => (s, ss.count s)
def lkD (p : Sk × Nat) : D := .tup [.int p.1.row, .int p.1.place, ch p.1.sign, colD p.1.red, .int (p.2 : Int)]
def lookL (ss : List Sk) : List D := (lookS ss).map lkD
def sksS (c : Int) (dead : List Nat) (dn : Int) (ks : List Ky) : List Sk := (runL (newS c dead dn) ks).1.marks.map skOf
def ph_look_of (A : Ad) : FW := fun ds m R _ => ∃ (c : Int) (dead : List Nat) (dn : Int) (ks : List Ky), ds = [machD c dead dn, .tup (ks.map kyD)] ∧ MOk c dead dn ∧ (∀ k ∈ ks, kyOk k) ∧ ks.length ≤ 4000 ∧ (sksS c dead dn ks).length ≤ 76 ∧ R (.lst (lookL (sksS c dead dn ks))) m
def ph_look (A : Ad) : FW := fun ds m R x => ∃ dm dk, ds = [dm, dk] ∧ inBoth A m dm dk x fun c dead dn ks => (sksS c dead dn ks).length ≤ 76 ∧ R (.lst (lookL (sksS c dead dn ks))) m
def ph_same_look (A : Ad) : FW := fun ds m R x => ∃ dm d1 d2, ds = [dm, d1, d2] ∧ inBoth A m dm d1 x fun c dead dn ks => inKeys A m d2 x fun ks2 => (sksS c dead dn ks).length ≤ 76 ∧ (sksS c dead dn ks2).length ≤ 76 ∧ R (.bl (decide (lookS (sksS c dead dn ks) = lookS (sksS c dead dn ks2)))) m
def nsAt (ms : List Mk) (row place : Int) : List Int := (ms.filter fun k => decide (k.row = row) && decide (k.place = place)).map (·.n)
def ph_strikers (A : Ad) : FW := fun ds m R x => ∃ dm dk dr dp, ds = [dm, dk, dr, dp] ∧ inBoth A m dm dk x fun c dead dn ks => (tyN m dr).isSome = true ∧ (tyN m dp).isSome = true ∧
  if (wholeB dr 0 60 && wholeB dp 0 (2 * c)) = true then (∀ r p, dr = .int r → dp = .int p → R (.lst ((nsAt (marksS c dead dn ks) r p).map .int)) m) else x A.xNoPlace m
def ph__law_looks (A : Ad) : FW := fun ds m R _ => ∃ w m0 s, ds = [.ref w] ∧ Wk m0 w m s ∧ (∀ k ∈ s.marks, k.sign < 128) ∧ s.marks.length ≤ 76 ∧ R (.lst (lookL (s.marks.map skOf))) m
end DL
end
section
set_option maxHeartbeats 0
namespace DL
open PySem
section
variable {α : Type} [DecidableEq α]
theorem dd_mem {a : α} : ∀ {l : List α}, a ∈ dd l ↔ a ∈ l
  | [] => by simp [dd]
  | b :: l => by
    unfold dd
    split
    · rename_i h
      rw [dd_mem (l := l), List.mem_cons]
      exact ⟨.inr, fun z => z.elim (fun e => e ▸ h) id⟩
    · rw [List.mem_cons, dd_mem (l := l), List.mem_cons]
theorem dd_nodup : ∀ l : List α, (dd l).Nodup
  | [] => by simp [dd]
  | b :: l => by
    unfold dd
    split
    · exact dd_nodup l
    · rename_i h
      exact List.nodup_cons.mpr ⟨fun z => h (dd_mem.mp z), dd_nodup l⟩
theorem eqDs_map {α : Type} [DecidableEq α] {f : α → D} (h : ∀ a b, eqD (f a) (f b) = decide (a = b)) : ∀ xs ys : List α, eqDs (xs.map f) (ys.map f) = decide (xs = ys)
  | [], [] => by simp [eqDs]
  | [], _ :: _ => by simp [eqDs]
  | _ :: _, [] => by simp [eqDs]
  | x :: xs, y :: ys => by
    rw [List.map_cons, List.map_cons, eqDs, h, eqDs_map h xs ys]
    by_cases e : x = y <;> by_cases e2 : xs = ys <;> simp [e, e2]
end
theorem skLt_iff {a b : Sk} : skLt a b = true ↔ a.row < b.row ∨ (a.row = b.row ∧ (a.place < b.place ∨ (a.place = b.place ∧ (a.sign < b.sign ∨ (a.sign = b.sign ∧ a.red = false ∧ b.red = true))))) := by
  simp [skLt]
theorem skLt_no {a b : Sk} : skLt a b = false ↔ ¬ (a.row < b.row ∨ (a.row = b.row ∧ (a.place < b.place ∨ (a.place = b.place ∧ (a.sign < b.sign ∨ (a.sign = b.sign ∧ a.red = false ∧ b.red = true)))))) := by
  rw [← skLt_iff]; simp
def redN (b : Bool) : Nat := if b then 1 else 0
theorem skLt_no' {a b : Sk} : skLt a b = false ↔ ¬ (a.row < b.row ∨ (a.row = b.row ∧ (a.place < b.place ∨ (a.place = b.place ∧ (a.sign < b.sign ∨ (a.sign = b.sign ∧ redN a.red < redN b.red)))))) := by
  rw [skLt_no]
  cases a.red <;> cases b.red <;> simp [redN]
theorem redN_inj {a b : Bool} (h : redN a = redN b) : a = b := by cases a <;> cases b <;> simp [redN] at h ⊢
theorem skLt_anti {a b : Sk} (h1 : skLt a b = false) (h2 : skLt b a = false) : a = b := by
  rw [skLt_no'] at h1 h2
  have e4 := redN_inj (a := a.red) (b := b.red) (by omega)
  obtain ⟨a1, a2, a3, a4⟩ := a
  obtain ⟨b1, b2, b3, b4⟩ := b
  simp only at *
  subst e4
  have : a1 = b1 := by omega
  have : a2 = b2 := by omega
  have : a3 = b3 := by omega
  subst_vars; rfl
theorem uniqS_perm (ss : List Sk) : (uniqS ss).Perm (dd ss) := List.mergeSort_perm _ _
theorem uniqS_mem {ss : List Sk} {a : Sk} : a ∈ uniqS ss ↔ a ∈ ss := by rw [(uniqS_perm ss).mem_iff, dd_mem]
theorem uniqS_nodup (ss : List Sk) : (uniqS ss).Nodup := (uniqS_perm ss).nodup_iff.mpr (dd_nodup ss)
theorem uniqS_le (ss : List Sk) : (uniqS ss).Pairwise (fun a b => skLt b a = false) := by
  have h := List.pairwise_mergeSort (le := fun a b : Sk => !skLt b a) (fun a b c h1 h2 => ?_) (fun a b => ?_) (dd ss)
  · exact h.imp fun h => by simpa using h
  · simp only [Bool.not_eq_true'] at h1 h2 ⊢
    rw [skLt_no'] at h1 h2 ⊢
    omega
  · rw [Bool.or_eq_true]
    simp only [Bool.not_eq_true']
    rw [skLt_no', skLt_no']
    omega
theorem uniqS_is {ss es : List Sk} (hn : es.Nodup) (hm : ∀ a, a ∈ es ↔ a ∈ ss) (hs : es.Pairwise (fun a b => skLt b a = false)) : es = uniqS ss :=
  sort_uniq (le := fun a b => skLt b a = false) (fun x _ y _ h1 h2 => skLt_anti h2 h1) hs (uniqS_le ss) ((List.perm_ext_iff_of_nodup hn (uniqS_nodup ss)).mpr fun a => by rw [hm, uniqS_mem])
theorem lookS_perm {a b : List Sk} (h : a.Perm b) : lookS a = lookS b := by
  unfold lookS
  rw [uniqS_is (ss := b) (uniqS_nodup a) (fun x => by rw [uniqS_mem, h.mem_iff]) (uniqS_le a)]
  exact List.map_congr_left fun s _ => by rw [h.count_eq]
theorem lookS_count {ss : List Sk} {s : Sk} {n : Nat} (h : (s, n) ∈ lookS ss) : n = ss.count s := by
  obtain ⟨s', _, e⟩ := List.mem_map.mp h
  cases e; rfl
theorem lookS_inj {a b : List Sk} (h : lookS a = lookS b) : a.Perm b := by
  refine List.perm_iff_count.mpr fun s => ?_
  have key : ∀ {a b : List Sk}, lookS a = lookS b → s ∈ a → a.count s = b.count s := fun {a b} h hs => by
    have : (s, a.count s) ∈ lookS a := List.mem_map.mpr ⟨s, uniqS_mem.mpr hs, rfl⟩
    rw [h] at this
    exact lookS_count this
  by_cases ha : s ∈ a
  · exact key h ha
  · by_cases hb : s ∈ b
    · exact (key h.symm hb).symm
    · rw [List.count_eq_zero_of_not_mem ha, List.count_eq_zero_of_not_mem hb]
theorem look_iff {a b : List Sk} : lookS a = lookS b ↔ a.Perm b := ⟨lookS_inj, lookS_perm⟩
theorem lookL_perm {a b : List Sk} (h : a.Perm b) : lookL a = lookL b := by unfold lookL; rw [lookS_perm h]
theorem eq_lk (p q : Sk × Nat) : eqD (lkD p) (lkD q) = decide (p = q) := by
  obtain ⟨⟨a1, a2, a3, a4⟩, n⟩ := p
  obtain ⟨⟨b1, b2, b3, b4⟩, k⟩ := q
  rw [Bool.eq_iff_iff]
  simp [lkD, eqD, eqDs, eq_col]
  constructor
  · rintro ⟨h1, h2, h3, h4, h5⟩; exact ⟨⟨h1, h2, h3, h4⟩, by omega⟩
  · rintro ⟨⟨h1, h2, h3, h4⟩, h5⟩; exact ⟨h1, h2, h3, h4, by omega⟩
theorem eq_look (a b : List Sk) : eqD (.lst (lookL a)) (.lst (lookL b)) = decide (lookS a = lookS b) := by
  rw [eqD]; exact eqDs_map eq_lk _ _
theorem eq_sk (p q : Sk) : eqD (skD p) (skD q) = decide (p = q) := by
  obtain ⟨a1, a2, a3, a4⟩ := p
  obtain ⟨b1, b2, b3, b4⟩ := q
  simp [skD, eqD, eqDs, eq_col]
theorem eq_sks (a b : List Sk) : eqD (.lst (a.map skD)) (.lst (b.map skD)) = decide (a = b) := by
  rw [eqD]; exact eqDs_map eq_sk _ _
theorem ok_sk (s : Sk) (n : Nat) (h : s.sign < 128) : dOk (skD s) (n + 1) = true := by
  simp [skD, dOk, dOks, ok_col, okS]; omega
theorem ok_lk (p : Sk × Nat) (n : Nat) (h : p.1.sign < 128) : dOk (lkD p) (n + 1) = true := by
  simp [lkD, dOk, dOks, ok_col, okS]; omega
theorem lookS_mem {ss : List Sk} {p : Sk × Nat} (h : p ∈ lookS ss) : p.1 ∈ ss := by
  obtain ⟨s, hs, rfl⟩ := List.mem_map.mp h
  exact uniqS_mem.mp hs
theorem ok_look {ss : List Sk} (n : Nat) (h : ∀ s ∈ ss, s.sign < 128) : dOk (.lst (lookL ss)) (n + 2) = true := by
  rw [dOk]
  refine doks_all fun d hd => ?_
  obtain ⟨p, hp, rfl⟩ := List.mem_map.mp hd
  exact ok_lk p n (h p.1 (lookS_mem hp))
theorem ok_sks {ss : List Sk} (n : Nat) (h : ∀ s ∈ ss, s.sign < 128) : dOk (.lst (ss.map skD)) (n + 2) = true := by
  rw [dOk]
  refine doks_all fun d hd => ?_
  obtain ⟨p, hp, rfl⟩ := List.mem_map.mp hd
  exact ok_sk p n (h p hp)
theorem skD_inj {a b : Sk} (h : skD a = skD b) : a = b := by
  have := eq_sk a b
  rw [h] at this
  have h2 := eq_sk b b
  rw [this] at h2
  simpa using h2
theorem ltD_col (a b : Bool) : ltD (.tup [colD a]) (.tup [colD b]) = (!a && b) := by
  have hal : ∀ x y : Bool, alikeD (colD x) (colD y) = true := fun x y => by cases x <;> cases y <;> rfl
  rw [ltD_cons (hal a b) (ok_col a 1) (ok_col b 1), eq_col, ltD_nil]
  have e1 : ∀ x y : Str, ltD (.str x) (.str y) = decide (x.cps.toList < y.cps.toList) := ltD_str
  have b1 : (PySem.Str.ofString "black").cps.toList = [98, 108, 97, 99, 107] := by decide +kernel
  have b2 : (PySem.Str.ofString "red").cps.toList = [114, 101, 100] := by decide +kernel
  have c1 : ltD (colD false) (colD true) = true := by show ltD (.str _) (.str _) = true; rw [e1, b1, b2]; decide
  have c2 : ltD (colD true) (colD false) = false := by show ltD (.str _) (.str _) = false; rw [e1, b1, b2]; decide
  cases a <;> cases b <;> simp [c1, c2]
theorem ltD_sk {a b : Sk} (ha : a.sign < 128) (hb : b.sign < 128) : ltD (skD a) (skD b) = skLt a b := by
  have i : ∀ (i : Int) (n : Nat), dOk (.int i) n = true := fun _ _ => rfl
  simp only [skD]
  rw [ltD_cons (alikeD_int _ _) (i _ 1) (i _ 1), ltD_cons (alikeD_int _ _) (i _ 1) (i _ 1), ltD_cons (alikeD_str _ _) (ok_ch a.sign 1 ha) (ok_ch b.sign 1 hb), ltD_col, ltD_int, ltD_int, ltD_str]
  have c1 : eqD (.int a.row) (.int b.row) = decide (a.row = b.row) := by simp [eqD]
  have c2 : eqD (.int a.place) (.int b.place) = decide (a.place = b.place) := by simp [eqD]
  have c3 : eqD (ch a.sign) (ch b.sign) = decide (a.sign = b.sign) := by simp [eqD]
  have e2 : decide ((⟨#[a.sign]⟩ : Str).cps.toList < (⟨#[b.sign]⟩ : Str).cps.toList) = decide (a.sign < b.sign) := by simp
  simp only [c1, c2, c3, e2, skLt]
  by_cases h1 : a.row = b.row
  · by_cases h2 : a.place = b.place
    · by_cases h3 : a.sign = b.sign
      · simp [h1, h2, h3]
      · simp [h1, h2, h3]
    · simp [h1, h2]
  · simp [h1]
theorem sk_alike (a b : Sk) : alikeD (skD a) (skD b) = true := mkB_alike ⟨0, a.row, a.place, a.sign, a.red⟩ ⟨0, b.row, b.place, b.sign, b.red⟩
theorem nk_col (b : Bool) (n : Nat) : nkOk (colD b) n = true := by
  have := ok_col b n
  cases b <;> simpa [colD, wordD, nkOk, dOk] using this
theorem nk_sk (s : Sk) (h : s.sign < 128) : nkOk (skD s) 8 = true := by
  have := ok_ch s.sign 7 h
  simp only [skD, nkOk, nkOks, nk_col]
  simpa [dOk] using this
theorem srtset_sk {ss : List Sk} {b : Bool} {m : Store} {R : KD} {a : WE} {r : Env} {x : XD} (hs : ∀ s ∈ ss, s.sign < 128) (hl : ss.length ≤ 76) (ha : ∀ K : KD, K (.lst (ss.map skD)) m → a r m K x) (h : wNw b ((uniqS ss).map skD) m R) : wSrtSetD b a r m R x := by
  refine ha _ ⟨ss.map skD, rfl, ⟨fun d hd => ?_, fun d hd e he => ?_, fun d hd => ?_, by simpa using hl⟩, fun es h1 h2 h3 => ?_⟩
  · obtain ⟨s, h', rfl⟩ := List.mem_map.mp hd; exact nk_sk s (hs s h')
  · obtain ⟨s, _, rfl⟩ := List.mem_map.mp hd; obtain ⟨s', _, rfl⟩ := List.mem_map.mp he; exact sk_alike s s'
  · obtain ⟨s, _, rfl⟩ := List.mem_map.mp hd; exact ⟨_, _, rfl⟩
  · obtain ⟨ys, rfl, hy⟩ := pick_map (f := skD) (xs := ss) (L := es) fun d hd => (h2 d).mp hd
    have e : ys = uniqS ss := by
      refine uniqS_is ((List.pairwise_map.mp h1).imp fun h e => h (by rw [e])) (fun a => ⟨hy a, fun ha => ?_⟩) ?_
      · obtain ⟨y, hy1, e⟩ := List.mem_map.mp ((h2 (skD a)).mpr (List.mem_map.mpr ⟨a, ha, rfl⟩))
        rw [← skD_inj e]; exact hy1
      · refine (List.pairwise_map.mp h3).imp_of_mem fun {p q} hp hq h => ?_
        rw [← ltD_sk (hs q (hy q hq)) (hs p (hy p hp))]; exact h
    rw [e]; exact h
theorem count_sk (ss : List Sk) (s : Sk) : (ss.map skD).countP (fun z => eqD z (skD s)) = ss.count s := by
  rw [List.countP_map, List.count_eq_countP]
  congr 1
  funext z
  simp only [Function.comp]
  rw [eq_sk]; rfl
theorem lc_look {ss : List Sk} {i j : Nat} {r : Env} {m : Store} {R : KD} {x : XD} (hs : ∀ s ∈ ss, s.sign < 128) (hl : ss.length ≤ 76) (hi : get r i = some (.lst (ss.map skD))) (hij : ∀ d, get (put (put r j none) j (some d)) i = some (.lst (ss.map skD))) (hjj : ∀ d, get (put (put r j none) j (some d)) j = some d) (h : R (.lst (lookL ss)) m) :
    wLc false [j] (iSeq (wSrtSetD false (wVar i))) (gNm j) (wYes) (wOp (wAdd false) (wVar j) (wTup (wCons (wMt "list" wCountD (wVar i) (wCons (wVar j) (wNil))) (wNil)))) r m R x := by
  have L : LIM = 16777216 := rfl
  have hul : (uniqS ss).length ≤ ss.length := by
    have := (uniqS_perm ss).length_eq
    have : ∀ l : List Sk, (dd l).length ≤ l.length := fun l => by
      induction l with
      | nil => simp [dd]
      | cons a l ih => unfold dd; split <;> simp <;> omega
    have := this ss
    omega
  simp only [e_lc, e_seqI]
  refine srtset_sk hs hl (fun K hK => by simp only [e_var, hi, ok_some]; exact hK) ?_
  simp only [e_nwF, asI]
  refine lc_map (G := fun _ => True) skD (fun s => lkD (s, ss.count s)) trivial (uniqS ss) [] _ (by simp; omega) (fun s hsm K1 hK => ?_) ?_
  · simp only [wipeS, wipe0, e_op, e_var, hjj, hij, ok_some, e_tup, e_cons, e_nil, e_mt, tyM, wCountD]
    refine ⟨trivial, ss.map skD, rfl, ok_sk s 58 (hs s (uniqS_mem.mp hsm)), ?_, by show 1 ≤ LIM; decide, ?_⟩
    · exact doks_all fun d hd => by obtain ⟨p, hp, rfl⟩ := List.mem_map.mp hd; exact ok_sk p 58 (hs p hp)
    · rw [count_sk]
      exact ⟨by show 4 + 1 ≤ LIM; decide, hK⟩
  · rw [List.nil_append]
    simpa [lookL, lookS, List.map_map, Function.comp_def] using h
end DL
end
section
set_option maxHeartbeats 0
namespace DL
open PySem
theorem ok_ref (k : Nat) : dOk (refD k) 60 = true := by
  simp only [refD]; rw [dOk, dOks, dOks, dOks]
  have := ok_word "refused" 59 (by decide +kernel)
  simp only [wordD] at this
  rw [this]; rfl
theorem eq_same {xs : List D} {m : Store} {R : KD} (h : dOk (.tup xs) 60 = true) (hR : R (.bl true) m) : wEq (.tup xs) (.tup xs) m R := ⟨h, h, by simp only [rv]; rw [eqD_refl _ _ h]; exact hR⟩
theorem ne_same {xs : List D} {m : Store} {R : KD} (h : dOk (.tup xs) 60 = true) (hR : R (.bl false) m) : wNe (.tup xs) (.tup xs) m R := eq_same h hR
theorem eq_ref {k : Nat} {m : Store} {R : KD} (hR : R (.bl true) m) : wEq (refD k) (refD k) m R := eq_same (ok_ref k) hR
theorem ne_ref {k : Nat} {m : Store} {R : KD} (hR : R (.bl false) m) : wNe (refD k) (refD k) m R := ne_same (ok_ref k) hR
theorem refT (k : Nat) : D.tup [.str (PySem.Str.ofString "refused"), .int k] = refD k := rfl
theorem wEqI (i j : Int) (m : Store) (R : KD) : wEq (.int i) (.int j) m R = R (.bl (decide (i = j))) m := rfl
theorem wNeI (i j : Int) (m : Store) (R : KD) : wNe (.int i) (.int j) m R = R (.bl (!decide (i = j))) m := rfl
theorem str_app (a b : List Nat) : (⟨a.toArray⟩ : Str) ++ (⟨b.toArray⟩ : Str) = ⟨(a ++ b).toArray⟩ := by
  show PySem.Str.append _ _ = _
  simp [PySem.Str.append]
theorem join_chars : ∀ cs : List Nat, Str.join ⟨#[]⟩ (cs.map fun c => (⟨#[c]⟩ : Str)) = ⟨cs.toArray⟩
  | [] => rfl
  | [c] => rfl
  | c :: d :: cs => by
    have ih := join_chars (d :: cs)
    simp only [List.map_cons] at ih ⊢
    rw [Str.join, ih]
    · have e1 : (⟨#[c]⟩ : Str) ++ (⟨#[]⟩ : Str) = ⟨#[c]⟩ := rfl
      rw [e1]
      exact str_app [c] (d :: cs)
    · simp
theorem join_ok {cs : List Nat} {m : Store} {R : KD} {d : D} (hd : asQ m d = some (cs.map ch)) (hl : cs.length ≤ 1000000) (h : R (.str ⟨cs.toArray⟩) m) : wJoin (.str ⟨#[]⟩) [d] m R := by
  have L : LIM = 16777216 := rfl
  refine ⟨cs.map fun c => ⟨#[c]⟩, by rw [hd]; simp, ?_, by rw [join_chars]; exact h⟩
  have : ((cs.map fun c => (⟨#[c]⟩ : Str)).map (·.length)).sum = cs.length := by
    clear hd h hl
    induction cs with
    | nil => rfl
    | cons a l ih => simp [PySem.Str.length] at ih ⊢; omega
  rw [this]
  simp [PySem.Str.length]; omega
theorem ok_kys (ks : List Ky) (hk : ∀ k ∈ ks, kyOk k) : dOk (.tup (ks.map kyD)) 60 = true := by
  rw [dOk]
  refine doks_all fun d hd => ?_
  obtain ⟨k, hk', rfl⟩ := List.mem_map.mp hd
  exact ky_ok (hk k hk') 58
end DL
end
section
set_option maxHeartbeats 0
namespace DL
open PySem
def psi_look_of (A : Ad) : WS := wSeq (wSet 2 (wLc false [3] (iSeq (wCall 2 (ph_marks_of A) (wCons (wVar 0) (wCons (wVar 1) (wNil))))) (gNm 3) (wYes) (wSl (wCut false) (wVar 3) (oSome (wC (.int 1))) (oNone)))) (wRet (wLc false [4] (iSeq (wSrtSetD false (wVar 2))) (gNm 4) (wYes) (wOp (wAdd false) (wVar 4) (wTup (wCons (wMt "list" wCountD (wVar 2) (wCons (wVar 4) (wNil))) (wNil))))))
def psi_look (A : Ad) : WS := wSeq (wExp (wCall 2 (ph_need_both A) (wCons (wVar 0) (wCons (wVar 1) (wNil))))) (wRet (wCall 2 (ph_look_of A) (wCons (wVar 0) (wCons (wVar 1) (wNil)))))
def psi_same_look (A : Ad) : WS := wSeq (wExp (wCall 2 (ph_need_both A) (wCons (wVar 0) (wCons (wVar 1) (wNil))))) (wSeq (wExp (wCall 1 (ph_need_keys A) (wCons (wVar 2) (wNil)))) (wRet (wOp wEq (wCall 2 (ph_look_of A) (wCons (wVar 0) (wCons (wVar 1) (wNil)))) (wCall 2 (ph_look_of A) (wCons (wVar 0) (wCons (wVar 2) (wNil)))))))
def psi_strikers (A : Ad) : WS := wSeq (wExp (wCall 2 (ph_need_both A) (wCons (wVar 0) (wCons (wVar 1) (wNil))))) (wSeq (wIfS (wOr (wNot (wTest (wCall 3 (ph_is_whole A) (wCons (wVar 2) (wCons (wC (.int 0)) (wCons (wC (.int 60)) (wNil))))))) (wNot (wTest (wCall 3 (ph_is_whole A) (wCons (wVar 3) (wCons (wC (.int 0)) (wCons (wCall 1 (ph_end_of A) (wCons (wVar 0) (wNil))) (wNil)))))))) (wRaise A.xNoPlace) (wNext)) (wRet (wLc false [4] (iSeq (wCall 2 (ph_marks_of A) (wCons (wVar 0) (wCons (wVar 1) (wNil))))) (gNm 4) (wTest (wOp wEq (wSl (wCut false) (wVar 4) (oSome (wC (.int 1))) (oSome (wC (.int 3)))) (wTup (wCons (wVar 2) (wCons (wVar 3) (wNil)))))) (wOp wIx (wVar 4) (wC (.int 0))))))
end DL
end
section
set_option maxHeartbeats 0
namespace DL
open PySem
def psi__law_looks (A : Ad) : WS := wSeq (wSet 1 (wLc false [2] (iSeq (wOp wDGet (wVar 0) (wC (.str (PySem.Str.ofString "marks"))))) (gNm 2) (wYes) (wSl (wCut false) (wVar 2) (oSome (wC (.int 1))) (oNone)))) (wRet (wLc false [3] (iSeq (wSrtSetD false (wVar 1))) (gNm 3) (wYes) (wOp (wAdd false) (wVar 3) (wTup (wCons (wMt "list" wCountD (wVar 1) (wCons (wVar 3) (wNil))) (wNil))))))
end DL
end
section
set_option maxHeartbeats 0
namespace DL
open PySem
theorem marks_sk (c : Int) (dead : List Nat) (dn : Int) (ks : List Ky) : ((marksS c dead dn ks).map skOf).Perm (sksS c dead dn ks) := (sortM_perm _).map skOf
theorem sks_lt {c : Int} {dead : List Nat} {dn : Int} {ks : List Ky} (hk : ∀ k ∈ ks, kyOk k) : ∀ s ∈ sksS c dead dn ks, s.sign < 128 := fun s hs => by
  obtain ⟨k, hk', rfl⟩ := List.mem_map.mp hs
  exact (run_sm hk (new_sm c dead dn)).g k hk'
theorem sks_len {c : Int} {dead : List Nat} {dn : Int} {ks : List Ky} (hk : ∀ k ∈ ks, kyOk k) : (sksS c dead dn ks).length ≤ ks.length := by
  have := (run_sm hk (new_sm c dead dn)).m
  simp only [sksS, List.length_map]; omega
theorem cut_mk (k : Mk) (m : Store) (K : KD) : wCut false (mkD k) (some 1) none m K = K (skD (skOf k)) m := by
  show K (.tup (cutL [D.int k.n, .int k.row, .int k.place, ch k.sign, colD k.red] (some 1) none)) m = _
  rw [mk_cut]; rfl
variable {A : Ad} (hA : AdOk A)
include hA
theorem dt_look_of : ∀ ds m R x, ph_look_of A ds m R x → psi_look_of A (startD 5 ds) m (endD R x) := by
  rintro ds m R x ⟨c, dead, dn, ks, rfl, hM, hk, hl, h76, h⟩
  have L : LIM = 16777216 := rfl
  have hp := marks_sk c dead dn ks
  have hlt := sks_lt (c := c) (dead := dead) (dn := dn) hk
  have hlen : (marksS c dead dn ks).length ≤ 76 := by have := hp.length_eq; simp at this; omega
  simp [psi_look_of]
  refine ⟨c, dead, dn, ks, rfl, hM, hk, hl, ?_⟩
  simp only [asI]
  refine lc_map (G := fun _ => True) mkD (fun k => skD (skOf k)) trivial (marksS c dead dn ks) [] _ (by simp; omega) (fun k hk K1 hK => ?_) ?_
  · simp only [putS, put0, e_sl, e_oSome, e_oNone, e_var, e_c, getS, get0, ok_some, cut_mk]
    exact hK
  · rw [List.nil_append, show (marksS c dead dn ks).map (fun k => skD (skOf k)) = ((marksS c dead dn ks).map skOf).map skD by simp]
    have h' := lc_look (ss := (marksS c dead dn ks).map skOf) (i := 2) (j := 4) (r := [some (machD c dead dn), some (.tup (ks.map kyD)), some (.lst (((marksS c dead dn ks).map skOf).map skD)), none, none]) (m := m) (R := R) (x := x) (fun s hs => hlt s (hp.mem_iff.mp hs)) (by simpa using hlen) rfl (fun d => rfl) (fun d => rfl) (by rw [lookL_perm hp]; exact h)
    exact h'
theorem dt__law_looks : ∀ ds m R x, ph__law_looks A ds m R x → psi__law_looks A (startD 4 ds) m (endD R x) := by
  rintro ds m R x ⟨w, m0, s, rfl, ⟨ta, ma, ra, W⟩, hg, hl, h⟩
  have L : LIM = 16777216 := rfl
  have d1 : ∀ K : KD, wDGet (.ref w) (.str (PySem.Str.ofString "marks")) m K = K (.ref ma) m ∨ True := fun _ => .inr trivial
  simp [psi__law_looks]
  refine ⟨_, W.hw, ?_⟩
  have e1 : lookK (wkD s ta ma ra) (.inr (PySem.Str.ofString "marks")) = some (.ref ma) := by simp [wkD, lookK, key]
  simp only [keyD, ok_some, e1, asI, W.hm]
  refine lc_map (G := fun m' => m' ma = some (.lst (s.marks.map mkD))) mkD (fun k => skD (skOf k)) W.hm s.marks [] _ (by simp; omega) (fun k hk K1 hK => ?_) ?_
  · simp only [putS, put0, e_sl, e_oSome, e_oNone, e_var, e_c, getS, get0, ok_some, cut_mk]
    exact hK
  · rw [List.nil_append, show s.marks.map (fun k => skD (skOf k)) = (s.marks.map skOf).map skD by simp]
    have h' := lc_look (ss := s.marks.map skOf) (i := 1) (j := 3) (r := [some (.ref w), some (.lst ((s.marks.map skOf).map skD)), none, none]) (m := m) (R := R) (x := x) (fun s hs => by obtain ⟨k, hk, rfl⟩ := List.mem_map.mp hs; exact hg k hk) (by simpa using hl) rfl (fun d => rfl) (fun d => rfl) h
    exact h'
theorem dt_look : ∀ ds m R x, ph_look A ds m R x → psi_look A (startD 2 ds) m (endD R x) := by
  rintro ds m R x ⟨dm, dk, rfl, h⟩
  simp [psi_look]
  refine ⟨dm, dk, rfl, h.imp fun c dead dn ks e hM e2 hk hl hR => ?_⟩
  subst e e2
  exact ⟨c, dead, dn, ks, rfl, hM, fun k hk' => kyG_ok (hk k hk'), hl, hR.1, hR.2⟩
theorem dt_same_look : ∀ ds m R x, ph_same_look A ds m R x → psi_same_look A (startD 3 ds) m (endD R x) := by
  rintro ds m R x ⟨dm, d1, d2, rfl, h⟩
  simp [psi_same_look]
  refine ⟨dm, d1, rfl, h.imp fun c dead dn ks e hM e2 hk hl hR => ⟨d2, rfl, hR.imp fun ks2 e3 hk2 hl2 hQ => ?_⟩⟩
  subst e e2 e3
  clear hR
  have hR := hQ
  have k1 : ∀ k ∈ ks, kyOk k := fun k hk' => kyG_ok (hk k hk')
  have k2 : ∀ k ∈ ks2, kyOk k := fun k hk' => kyG_ok (hk2 k hk')
  refine ⟨c, dead, dn, ks, rfl, hM, k1, hl, hR.1, c, dead, dn, ks2, rfl, hM, k2, hl2, hR.2.1, ?_⟩
  refine ⟨ok_look 58 (sks_lt k1), ok_look 58 (sks_lt k2), ?_⟩
  simp only [rv]
  rw [eq_look]; exact hR.2.2
omit hA in
theorem cut_rp (k : Mk) (m : Store) (K : KD) : wCut false (mkD k) (some 1) (some 3) m K = K (.tup [.int k.row, .int k.place]) m := rfl
theorem dt_strikers : ∀ ds m R x, ph_strikers A ds m R x → psi_strikers A (startD 5 ds) m (endD R x) := by
  rintro ds m R x ⟨dm, dk, dr, dp, rfl, h⟩
  have L : LIM = 16777216 := rfl
  simp [psi_strikers]
  refine ⟨dm, dk, rfl, h.imp fun c dead dn ks e hM e2 hk hl hR => ?_⟩
  subst e e2
  obtain ⟨t1, t2, h⟩ := hR
  have k1 : ∀ k ∈ ks, kyOk k := fun k hk' => kyG_ok (hk k hk')
  refine ⟨dr, 0, 60, rfl, t1, ?_⟩
  cases h1 : wholeB dr 0 60 with
  | false => simp [h1] at h ⊢; exact h
  | true =>
    simp only [h1, Bool.true_and] at h
    simp
    refine ⟨c, dead, dn, rfl, hM, dp, 0, 2 * c, rfl, t2, ?_⟩
    cases h2 : wholeB dp 0 (2 * c) with
    | false => simp [h2] at h ⊢; exact h
    | true =>
      simp only [h2, if_true] at h
      obtain ⟨r, rfl⟩ : ∃ r, dr = .int r := by cases dr <;> simp [wholeB] at h1; exact ⟨_, rfl⟩
      obtain ⟨p, rfl⟩ : ∃ p, dp = .int p := by cases dp <;> simp [wholeB] at h2; exact ⟨_, rfl⟩
      have h := h r p rfl rfl
      simp
      refine ⟨c, dead, dn, ks, rfl, hM, k1, hl, ?_⟩
      have hsm := run_sm k1 (new_sm c dead dn)
      have hlen : (marksS c dead dn ks).length ≤ 4000 := by
        have := hsm.m
        have e : (marksS c dead dn ks).length = _ := (sortM_perm _).length_eq
        omega
      simp only [asI]
      have key : ∀ (xs : List Mk) (acc : List D) (K : List D → Store → Prop), acc.length + xs.length ≤ LIM → K (acc ++ (nsAt xs r p).map .int) m →
          wLcL (fun _ => True) [4] (gNm 4) (wTest (wOp wEq (wSl (wCut false) (wVar 4) (oSome (wC (.int 1))) (oSome (wC (.int 3)))) (wTup (wCons (wVar 2) (wCons (wVar 3) (wNil)))))) (wOp wIx (wVar 4) (wC (.int 0))) [some (machD c dead dn), some (.tup (ks.map kyD)), some (.int r), some (.int p), none] (xs.map mkD) acc m K := by
        intro xs
        induction xs with
        | nil => intro acc K _ hK; exact ⟨trivial, by simpa [nsAt] using hK⟩
        | cons k xs ih =>
          intro acc K hl hK
          simp only [List.length_cons] at hl
          refine ⟨trivial, ?_⟩
          have i0 : ∀ K : KD, wIx (mkD k) (.int 0) m K = K (.int k.n) m := fun _ => rfl
          simp only [g_nm, wipeS, wipe0, putS, put0, e_test, e_op, e_sl, e_oSome, e_var, e_c, getS, get0, ok_some, cut_rp, e_tup, e_cons, e_nil, i0]
          refine ⟨by show 2 ≤ LIM; decide, rfl, rfl, ?_⟩
          have e : eqD (.tup [.int k.row, .int k.place]) (.tup [.int r, .int p]) = (decide (k.row = r) && decide (k.place = p)) := by simp [eqD, eqDs]
          simp only [rv, e]
          by_cases hb : (decide (k.row = r) && decide (k.place = p)) = true
          · rw [if_pos hb]
            refine ⟨by omega, ih _ K (by simp; omega) ?_⟩
            simpa [nsAt, List.filter_cons, hb] using hK
          · rw [if_neg hb]
            refine ih _ K (by omega) ?_
            have hb' : (decide (k.row = r) && decide (k.place = p)) = false := by simpa using hb
            unfold nsAt at hK ⊢
            rw [List.filter_cons, hb'] at hK
            simpa using hK
      exact key (marksS c dead dn ks) [] _ (by simp; omega) (by simpa using h)
end DL
end
section
set_option maxHeartbeats 0
namespace DL
open PySem
structure AW where
  c : Int
  dead : List Nat
  dn : Int
  row : Int
  place : Int
  low : Int
  high : Int
  tabs : List Int
  red : Bool
  caps : Bool
  free : Bool
  marks : List Sk
def abs (s : LW) : AW := ⟨s.c, s.dead, s.dn, s.row, s.place, s.low, s.high, s.tabs, s.red, s.caps, s.free, s.marks.map skOf⟩
def remL {α : Type} (p : α → Bool) : List α → Option (α × List α)
  | [] => none
  | a :: l => match remL p l with
    | some (x, r) => some (x, a :: r)
    | none => if p a then some (a, l) else none
def strikeS (w : String) (s : Sk) : D := .tup [wordD w, .int s.row, .int s.place, ch s.sign, colD s.red]
def asA (s : AW) (c : Nat) : Nat := if s.caps then upC c else c
def shutA (s : AW) (p : Int) : Bool := decide (2 * s.c < p) || (!s.free && decide (s.high < p))
def likeA (s : AW) (c : Nat) (k : Sk) : Bool := decide (k.row = s.row) && decide (k.place = s.place) && decide (k.sign = asA s c)
def inkMA (s : AW) (st : Bool) (c : Nat) : List Sk × D :=
  if st then (s.marks ++ [⟨s.row, s.place, asA s c, s.red⟩], strikeS "struck" ⟨s.row, s.place, asA s c, s.red⟩)
  else match remL (likeA s c) s.marks with
    | none => (s.marks, nothD s.row s.place)
    | some (k, r) => (r, strikeS "lifted" k)
def inkA (s : AW) (st : Bool) (c : Nat) : AW × D :=
  if shutA s (s.place + 2) = true then (s, lockD)
  else ({ s with marks := (inkMA s st c).1, place := if c ∈ s.dead then s.place else s.place + 2 }, (inkMA s st c).2)
def turnA (s : AW) : Ky → AW × D
  | .left => if s.place < s.high then ({ s with low := s.place }, doneD) else (s, lockD)
  | .right => if s.low < s.place then ({ s with high := s.place }, doneD) else (s, lockD)
  | .set => ({ s with tabs := s.tabs.filter (fun t => decide (t ≠ s.place)) ++ [s.place] }, doneD)
  | .clear => if s.place ∈ s.tabs then ({ s with tabs := s.tabs.filter (fun t => decide (t ≠ s.place)) }, doneD) else (s, lockD)
  | .all => ({ s with tabs := [] }, doneD)
  | .free => ({ s with free := true }, doneD)
  | .ribbon => ({ s with red := !s.red }, doneD)
  | .caps => ({ s with caps := !s.caps }, doneD)
  | _ => (s, doneD)
def onA (s : AW) (p : Int) : AW × D := if shutA s p = true then (s, lockD) else ({ s with place := p }, movedD s.row p)
def rowA (s : AW) (r : Int) (home : Bool) : AW × D :=
  if r < 0 ∨ 60 < r then (s, lockD) else if home then ({ s with row := r, place := s.low, free := false }, movedD r s.low) else ({ s with row := r }, movedD r s.place)
def tabA (s : AW) : Int := ((s.tabs.filter fun t => decide (s.place < t)) ++ [999]).min?.getD 0
def actA (s : AW) : Ky → AW × D
  | .sign c => inkA s true c
  | .lift c => inkA s false c
  | .back => if s.place < 2 ∨ (s.free = false ∧ s.low ≤ s.place ∧ s.place - 2 < s.low) then (s, lockD) else ({ s with place := s.place - 2 }, movedD s.row (s.place - 2))
  | .ret => rowA s (s.row + s.dn) true
  | .up => rowA s (s.row - 1) false
  | .down => rowA s (s.row + 1) false
  | .blank => onA s (s.place + 2)
  | .half => onA s (s.place + 1)
  | .tab => onA s (tabA s)
  | k => turnA s k
def runA (s : AW) : List Ky → AW × List D
  | [] => (s, [])
  | k :: ks => ((runA (actA s k).1 ks).1, (actA s k).2 :: (runA (actA s k).1 ks).2)
def newA (c : Int) (dead : List Nat) (dn : Int) : AW := ⟨c, dead, dn, 0, 0, 0, 2 * c, [], false, false, false, []⟩
theorem abs_new (c : Int) (dead : List Nat) (dn : Int) : abs (newS c dead dn) = newA c dead dn := rfl
theorem remL_none {α : Type} {p : α → Bool} : ∀ {l : List α}, remL p l = none ↔ ∀ a ∈ l, p a = false
  | [] => by simp [remL]
  | a :: l => by
    have ih := remL_none (p := p) (l := l)
    unfold remL
    cases h : remL p l with
    | some q =>
      simp only [h] at ih
      constructor
      · intro z; cases z
      · intro z; exact absurd (ih.mpr fun b hb => z b (List.mem_cons_of_mem _ hb)) (by simp)
    | none =>
      have h' := ih.mp h
      cases hp : p a
      · simp [hp, h']; exact h'
      · simp [hp]
theorem remL_split {α : Type} {p : α → Bool} : ∀ {l : List α} {x : α} {r : List α}, remL p l = some (x, r) → ∃ u v, l = u ++ x :: v ∧ r = u ++ v ∧ p x = true ∧ ∀ b ∈ v, p b = false
  | [], x, r, h => by simp [remL] at h
  | a :: l, x, r, h => by
    unfold remL at h
    cases hl : remL p l with
    | some q =>
      obtain ⟨y, r'⟩ := q
      simp only [hl] at h
      cases h
      obtain ⟨u, v, e1, e2, e3, e4⟩ := remL_split hl
      exact ⟨a :: u, v, by rw [e1]; rfl, by rw [e2]; rfl, e3, e4⟩
    | none =>
      simp only [hl] at h
      cases hp : p a
      · simp [hp] at h
      · simp [hp] at h
        obtain ⟨rfl, rfl⟩ := h
        exact ⟨[], l, rfl, rfl, hp, remL_none.mp hl⟩
theorem remL_app {α : Type} {p : α → Bool} {u v : List α} {x : α} (hx : p x = true) (hv : ∀ b ∈ v, p b = false) : remL p (u ++ x :: v) = some (x, u ++ v) := by
  induction u with
  | nil =>
    have : remL p v = none := remL_none.mpr hv
    simp [remL, this, hx]
  | cons a u ih => simp [remL, ih]
theorem erase_last {ms : List Mk} {p : Sk → Bool} (hn : ms.Pairwise (fun a b => a.n < b.n)) : match (ms.filter fun k => p (skOf k)).getLast? with
    | none => remL p (ms.map skOf) = none
    | some k => remL p (ms.map skOf) = some (skOf k, (ms.erase k).map skOf) := by
  have h : ∀ ms : List Mk, (∀ k ∈ ms, p (skOf k) = false) ∨ ∃ u x v, ms = u ++ x :: v ∧ p (skOf x) = true ∧ ∀ b ∈ v, p (skOf b) = false := by
    intro ms
    induction ms with
    | nil => exact .inl (by simp)
    | cons a l ih =>
      rcases ih with ih | ⟨u, x, v, e, hx, hv⟩
      · cases hp : p (skOf a)
        · refine .inl fun k hk => ?_
          rcases List.mem_cons.mp hk with z | z
          · rw [z]; exact hp
          · exact ih k z
        · exact .inr ⟨[], a, l, rfl, hp, ih⟩
      · exact .inr ⟨a :: u, x, v, by rw [e]; rfl, hx, hv⟩
  rcases h ms with h | ⟨u, x, v, e, hx, hv⟩
  · have e : ms.filter (fun k => p (skOf k)) = [] := List.filter_eq_nil_iff.mpr fun k hk => by simp [h k hk]
    rw [e]
    exact remL_none.mpr fun a ha => by obtain ⟨k, hk, rfl⟩ := List.mem_map.mp ha; exact h k hk
  · subst e
    have ev : v.filter (fun k => p (skOf k)) = [] := List.filter_eq_nil_iff.mpr fun k hk => by simp [hv k hk]
    have e1 : ((u ++ x :: v).filter fun k => p (skOf k)).getLast? = some x := by
      rw [List.filter_append, List.filter_cons, if_pos hx, ev]; simp
    rw [e1]
    have hxu : x ∉ u := fun hm => by
      have := (List.pairwise_append.mp hn).2.2 x hm x (by simp)
      omega
    have e2 : (u ++ x :: v).erase x = u ++ v := by
      rw [List.erase_append_right _ hxu, List.erase_cons_head]
    show remL p ((u ++ x :: v).map skOf) = some (skOf x, ((u ++ x :: v).erase x).map skOf)
    rw [e2, List.map_append, List.map_cons, List.map_append]
    exact remL_app hx fun b hb => by obtain ⟨k, hk, rfl⟩ := List.mem_map.mp hb; exact hv k hk
theorem abs_ink {s : LW} (h : s.ok) (st : Bool) (c : Nat) : abs (inkL s st c).1 = (inkA (abs s) st c).1 ∧ (inkL s st c).2 = (inkA (abs s) st c).2 := by
  have e0 : shutA (abs s) ((abs s).place + 2) = shutL s (s.place + 2) := rfl
  have eM : (inkM s st c).1.map skOf = (inkMA (abs s) st c).1 ∧ (inkM s st c).2 = (inkMA (abs s) st c).2 := by
    cases st with
    | true =>
      refine ⟨?_, rfl⟩
      simp only [inkM, inkMA, if_true, List.map_append]
      rfl
    | false =>
      have e := erase_last (p := likeA (abs s) c) h.mn
      have el : likes s c = s.marks.filter fun k => likeA (abs s) c (skOf k) := rfl
      simp only [inkM, inkMA, el, Bool.false_eq_true, if_false]
      cases hg : (s.marks.filter fun k => likeA (abs s) c (skOf k)).getLast? with
      | none =>
        rw [hg] at e
        have e' : remL (likeA (abs s) c) (abs s).marks = none := e
        rw [e']; exact ⟨rfl, rfl⟩
      | some k =>
        rw [hg] at e
        have e' : remL (likeA (abs s) c) (abs s).marks = some (skOf k, (s.marks.erase k).map skOf) := e
        rw [e']; exact ⟨rfl, rfl⟩
  unfold inkL inkA
  rw [e0]
  by_cases hs : shutL s (s.place + 2) = true
  · rw [if_pos hs, if_pos hs]; exact ⟨rfl, rfl⟩
  · rw [if_neg hs, if_neg hs]
    refine ⟨?_, eM.2⟩
    by_cases hd : c ∈ s.dead
    · simp only [if_pos hd, if_pos (show c ∈ (abs s).dead from hd)]
      show AW.mk _ _ _ _ _ _ _ _ _ _ _ _ = AW.mk _ _ _ _ _ _ _ _ _ _ _ _
      rw [← eM.1]; rfl
    · simp only [if_neg hd, if_neg (show c ∉ (abs s).dead from hd)]
      show AW.mk _ _ _ _ _ _ _ _ _ _ _ _ = AW.mk _ _ _ _ _ _ _ _ _ _ _ _
      rw [← eM.1]; rfl
theorem abs_press {s : LW} (h : s.ok) (k : Ky) : abs (pressL s k).1 = (actA (abs s) k).1 ∧ (pressL s k).2 = (actA (abs s) k).2 := by
  have many : ∀ t : LW, abs { t with many := t.many + 1 } = abs t := fun _ => rfl
  show abs { (actL s k).1 with many := (actL s k).1.many + 1 } = _ ∧ (actL s k).2 = _
  rw [many]
  have on : ∀ q, abs (onL s q).1 = (onA (abs s) q).1 ∧ (onL s q).2 = (onA (abs s) q).2 := fun q => by
    unfold onL onA
    rw [show shutA (abs s) q = shutL s q from rfl]
    by_cases hs : shutL s q = true
    · rw [if_pos hs, if_pos hs]; exact ⟨rfl, rfl⟩
    · rw [if_neg hs, if_neg hs]; exact ⟨rfl, rfl⟩
  have row : ∀ q b, abs (rowL s q b).1 = (rowA (abs s) q b).1 ∧ (rowL s q b).2 = (rowA (abs s) q b).2 := fun q b => by
    unfold rowL rowA
    by_cases hs : q < 0 ∨ 60 < q
    · rw [if_pos hs, if_pos hs]; exact ⟨rfl, rfl⟩
    · rw [if_neg hs, if_neg hs]; cases b <;> exact ⟨rfl, rfl⟩
  cases k with
  | sign c => exact abs_ink h true c
  | lift c => exact abs_ink h false c
  | blank => exact on _
  | half => exact on _
  | tab => exact on _
  | ret => exact row _ _
  | up => exact row _ _
  | down => exact row _ _
  | back =>
    by_cases hs : s.place < 2 ∨ (s.free = false ∧ s.low ≤ s.place ∧ s.place - 2 < s.low)
    · have e1 : actL s .back = (s, lockD) := if_pos hs
      have e2 : actA (abs s) .back = (abs s, lockD) := if_pos hs
      rw [e1, e2]; exact ⟨rfl, rfl⟩
    · have e1 : actL s .back = ({ s with place := s.place - 2 }, movedD s.row (s.place - 2)) := if_neg hs
      have e2 : actA (abs s) .back = ({ abs s with place := s.place - 2 }, movedD s.row (s.place - 2)) := if_neg hs
      rw [e1, e2]; exact ⟨rfl, rfl⟩
  | left =>
    by_cases hs : s.place < s.high
    · have e1 : actL s .left = ({ s with low := s.place }, doneD) := if_pos hs
      have e2 : actA (abs s) .left = ({ abs s with low := s.place }, doneD) := if_pos hs
      rw [e1, e2]; exact ⟨rfl, rfl⟩
    · have e1 : actL s .left = (s, lockD) := if_neg hs
      have e2 : actA (abs s) .left = (abs s, lockD) := if_neg hs
      rw [e1, e2]; exact ⟨rfl, rfl⟩
  | right =>
    by_cases hs : s.low < s.place
    · have e1 : actL s .right = ({ s with high := s.place }, doneD) := if_pos hs
      have e2 : actA (abs s) .right = ({ abs s with high := s.place }, doneD) := if_pos hs
      rw [e1, e2]; exact ⟨rfl, rfl⟩
    · have e1 : actL s .right = (s, lockD) := if_neg hs
      have e2 : actA (abs s) .right = (abs s, lockD) := if_neg hs
      rw [e1, e2]; exact ⟨rfl, rfl⟩
  | clear =>
    by_cases hs : s.place ∈ s.tabs
    · have e1 : actL s .clear = ({ s with tabs := s.tabs.filter (fun t => decide (t ≠ s.place)) }, doneD) := if_pos hs
      have e2 : actA (abs s) .clear = ({ abs s with tabs := s.tabs.filter (fun t => decide (t ≠ s.place)) }, doneD) := if_pos hs
      rw [e1, e2]; exact ⟨rfl, rfl⟩
    · have e1 : actL s .clear = (s, lockD) := if_neg hs
      have e2 : actA (abs s) .clear = (abs s, lockD) := if_neg hs
      rw [e1, e2]; exact ⟨rfl, rfl⟩
  | set => exact ⟨rfl, rfl⟩
  | all => exact ⟨rfl, rfl⟩
  | free => exact ⟨rfl, rfl⟩
  | ribbon => exact ⟨rfl, rfl⟩
  | caps => exact ⟨rfl, rfl⟩
theorem abs_run : ∀ (ks : List Ky) {s : LW}, s.ok → abs (runL s ks).1 = (runA (abs s) ks).1 ∧ (runL s ks).2 = (runA (abs s) ks).2
  | [], _, _ => ⟨rfl, rfl⟩
  | k :: ks, s, h => by
    obtain ⟨e1, e2⟩ := abs_press h k
    obtain ⟨i1, i2⟩ := abs_run ks (ok_press (k := k) h)
    rw [e1] at i1 i2
    exact ⟨i1, by show _ :: _ = _ :: _; rw [e2, i2]⟩
theorem runA_app : ∀ (a b : List Ky) (s : AW), runA s (a ++ b) = ((runA (runA s a).1 b).1, (runA s a).2 ++ (runA (runA s a).1 b).2) := by
  intro a
  induction a with
  | nil => intro b s; simp [runA]
  | cons k a ih => intro b s; simp [runA, ih]
def aft (c : Int) (dead : List Nat) (dn : Int) (ks : List Ky) : AW := (runA (newA c dead dn) ks).1
def standA (s : AW) : D := .tup [.int s.row, .int s.place, .int s.low, .int s.high, .tup ((tabsS s.tabs).map .int), colD s.red, .bl s.caps, .bl s.free]
section
variable {c : Int} {dead : List Nat} {dn : Int} (hM : MOk c dead dn) (ks : List Ky)
include hM
theorem aft_abs : abs (runL (newS c dead dn) ks).1 = aft c dead dn ks := (abs_run ks (new_ok hM)).1
theorem told_aft : (runL (newS c dead dn) ks).2 = (runA (newA c dead dn) ks).2 := (abs_run ks (new_ok hM)).2
theorem stand_aft : standD (runL (newS c dead dn) ks).1 = standA (aft c dead dn ks) := by rw [← aft_abs hM]; rfl
theorem sks_aft : sksS c dead dn ks = (aft c dead dn ks).marks := by rw [← aft_abs hM]; rfl
end
theorem aft_app (c : Int) (dead : List Nat) (dn : Int) (a b : List Ky) : aft c dead dn (a ++ b) = (runA (aft c dead dn a) b).1 := by unfold aft; rw [runA_app]
structure AW.ok (s : AW) : Prop where
  c0 : 8 ≤ s.c
  c1 : s.c ≤ 40
  d2 : 2 ≤ s.dn
  d4 : s.dn ≤ 4
  p0 : 0 ≤ s.place
  p1 : s.place ≤ 2 * s.c
  l0 : 0 ≤ s.low
  l1 : s.low ≤ 2 * s.c
  h0 : 0 ≤ s.high
  h1 : s.high ≤ 2 * s.c
  r0 : 0 ≤ s.row
  r1 : s.row ≤ 60
theorem aft_ok {c : Int} {dead : List Nat} {dn : Int} (hM : MOk c dead dn) (ks : List Ky) : (aft c dead dn ks).ok := by
  rw [← aft_abs hM]
  have h : (runL (newS c dead dn) ks).1.ok := ok_run (new_ok hM)
  exact ⟨h.c0, h.c1, h.d2, h.d4, h.p0, h.p1, h.l0, h.l1, h.h0, h.h1, h.r0, h.r1⟩
theorem aft_const {c : Int} {dead : List Nat} {dn : Int} (hM : MOk c dead dn) (ks : List Ky) : (aft c dead dn ks).c = c ∧ (aft c dead dn ks).dead = dead ∧ (aft c dead dn ks).dn = dn := by
  rw [← aft_abs hM]
  exact run_const ks (newS c dead dn)
theorem eq_of {d e : D} {m : Store} {R : KD} (h : d = e) (hd : dOk d 60 = true) (hR : R (.bl true) m) : wEq d e m R := by
  subst h
  have e : rv m d = d := by cases d <;> first | rfl | simp [dOk] at hd
  cases d with
  | str s => simpa [wEq] using hR
  | int i => simpa [wEq] using hR
  | _ => exact ⟨by rw [e]; exact hd, by rw [e]; exact hd, by rw [e, eqD_refl _ _ hd]; exact hR⟩
theorem ne_of {d e : D} {m : Store} {R : KD} (h : d = e) (hd : dOk d 60 = true) (hR : R (.bl false) m) : wNe d e m R := eq_of h hd hR
theorem wAddI (b : Bool) (i j : Int) (m : Store) (R : KD) : wAdd b (.int i) (.int j) m R = R (.int (i + j)) m := rfl
theorem add_keys {a : List Ky} (b : List Ky) {m : Store} {R : KD} (hl : a.length + b.length ≤ 16000000) (h : R (.tup ((a ++ b).map kyD)) m) : wAdd false (.tup (a.map kyD)) (.tup (b.map kyD)) m R := by
  refine ⟨?_, by rw [List.map_append] at h; exact h⟩
  rw [List.length_map, List.length_map, LIMv]; omega
end DL
end
section
set_option maxHeartbeats 0
namespace DL
open PySem PySem.Spec PyProof.Rows L2
section
variable {X : Cx} {W : WX} {a b c : Expr} {pos : Pos}
def wPar3 (i j l : Nat) (a : WA) : WS := fun r m k => a r m (fun us m1 => match us with | [u, v, w] => k.nx (put (put (put r i (some u)) j (some v)) l (some w)) m1 | _ => False) k.ex
theorem psd_par3 {ga : WA} {i j l : Nat} {x y z : Str} {px py pz pt : Pos} {kt k2 pt2} (hc : X.calm = true) (hN : X.N.Nodup) (hi : X.N[i]? = some x) (hj : X.N[j]? = some y) (hl : X.N[l]? = some z) (hij : i ≠ j) (hil : i ≠ l) (hjl : j ≠ l)
    (hx : X.env.scope.names.lookup x = some .local) (hy : X.env.scope.names.lookup y = some .local) (hz : X.env.scope.names.lookup z = some .local) (ha : PA X [a, b, c] (upA X.K W ga))
    (hw : swappedStores [.Tuple [.Name x px, .Name y py, .Name z pz] kt pt] (.Tuple [a, b, c] k2 pt2) X.env = pure (some [x, y, z]))
    (hs : swapsWithSole [.Tuple [.Name x px, .Name y py, .Name z pz] kt pt] (.Tuple [a, b, c] k2 pt2) pos.line X.env = pure false := by rfl) :
    PS X (.Assign [.Tuple [.Name x px, .Name y py, .Name z pz] kt pt] (.Tuple [a, b, c] k2 pt2) pos) (upS X.K W (wPar3 i j l ga)) := PS.imp (ps_par3 hc hN hi hj hl hij hil hjl hx hy hz ha hw hs) fun E σ H ⟨B, r, m, k, er, S, h, t⟩ => by
  refine ⟨B, r, m, _, _, er, S, h, fun B1 ds m1 vs H1 e1 S1 f1 p1 q1 => ?_, t.x er⟩
  cases p1 with
  | nil => exact q1.elim
  | cons h1 t1 => cases t1 with
    | nil => exact q1.elim
    | cons h2 t2 => cases t2 with
      | nil => exact q1.elim
      | cons h3 t3 => cases t3 with
        | cons _ _ => exact q1.elim
        | nil => exact ⟨_, _, _, rfl, t.nx B1 _ _ m1 H1 e1 S1 f1 ((((er.mono e1).set i h1).set j h2).set l h3) q1⟩
end
@[simp] theorem s_par3 (r : Env) (m : Store) (k : SK) (i j l : Nat) (a : WA) : wPar3 i j l a r m k = a r m (fun us m1 => match us with | [u, v, w] => k.nx (put (put (put r i (some u)) j (some v)) l (some w)) m1 | _ => False) k.ex := rfl
end DL
end
section
set_option maxHeartbeats 0
namespace DL
open PySem
def colB (d : D) : Bool := match d with
  | .str s => decide (s = PySem.Str.ofString "black") || decide (s = PySem.Str.ofString "red")
  | _ => false
def strikeB (c : Int) (d : D) : Bool := match d with
  | .tup [a, b, s, w] => wholeB a 0 60 && wholeB b 0 (2 * c - 2) && oneOfB s (G_SIGNS ++ G_GREAT) && colB w
  | _ => false
def sArg (m : Store) (d : D) : Prop := (tyN m d).isSome = true ∧ ∀ xs, d = .tup xs → ∀ w ∈ xs, (∀ m', (tyN m' w).isSome = true) ∧ ∀ t, w = .str t → t.length ≤ 1000
def ph_is_strike (A : Ad) : FW := fun ds m R _ => ∃ c dead dn d, ds = [machD c dead dn, d] ∧ MOk c dead dn ∧ sArg m d ∧ R (.bl (strikeB c d)) m
def backs (p g : Int) : Int := max 0 ((p - g + 1) / 2)
def ledD (p g : Int) : List D := List.replicate (backs p g).toNat (k1 "back") ++ onD (g - (p - 2 * backs p g))
def ph_led (A : Ad) : FW := fun ds m R _ => ∃ p g : Int, ds = [.int p, .int g] ∧ 0 ≤ p ∧ p ≤ 1000 ∧ 0 ≤ g ∧ g ≤ 1000 ∧ R (.lst (ledD p g)) m
def homeR (dn row : Int) : Int := if row + dn ≤ 60 then row + dn else row
def ph_home_row (A : Ad) : FW := fun ds m R _ => ∃ c dead dn row, ds = [machD c dead dn, .int row] ∧ R (.int (homeR dn row)) m
def homeK (dn row : Int) : List Ky := if 60 < row + dn then List.replicate dn.toNat .up ++ [.ret] else [.ret]
def ph_home (A : Ad) : FW := fun ds m R _ => ∃ c dead dn row, ds = [machD c dead dn, .int row] ∧ MOk c dead dn ∧ R (.lst ((homeK dn row).map kyD)) m
def Num (ms : List Mk) : Prop := ∀ (i : Nat) (k : Mk), ms[i]? = some k → k.n = (i : Int)
structure stOk (c : Int) (k : Mk) : Prop where
  r0 : 0 ≤ k.row
  r1 : k.row ≤ 60
  p0 : 0 ≤ k.place
  p1 : k.place ≤ 2 * c - 2
  sg : k.sign ∈ (G_SIGNS ++ G_GREAT).cps.toList
def strikesB (c : Int) (m : Store) (d : D) : Bool := match asL m d with
  | some xs => decide (xs.length ≤ 60) && xs.all (strikeB c)
  | none => false
def kArg (m : Store) (d : D) : Prop := (tyN m d).isSome = true ∧ ∀ xs, asL m d = some xs → xs.length ≤ 1000 ∧ ∀ w ∈ xs, ∀ m', sArg m' w
def stepD (dn : Int) (dead : List Nat) (row place : Int) (red : Bool) (k : Mk) : List D :=
  let b := decide (row < k.row) && decide (0 < place)
  let row1 := if b then homeR dn row else row
  let place1 := if b then 0 else place
  (if b then (homeK dn row).map kyD else []) ++ (List.replicate (k.row - row1).toNat (k1 "down") ++ List.replicate (row1 - k.row).toNat (k1 "up") ++ ledD place1 k.place) ++ (if k.red = red then [] else [k1 "ribbon"]) ++ keysOf [k.sign]
def forD (dn : Int) (dead : List Nat) : Int → Int → Bool → List Mk → List D
  | _, _, _, [] => []
  | row, place, red, k :: ks => stepD dn dead row place red k ++ forD dn dead k.row (if k.sign ∈ dead then k.place else k.place + 2) k.red ks
def ph_keys_for (A : Ad) : FW := fun ds m R x => ∃ (dm d : D), ds = [dm, d] ∧ inMach A m dm x fun c dead dn => kArg m d ∧ (strikesB c m d = false → x A.xNoStrikes m) ∧
  ∀ ms : List Mk, asL m d = some (ms.map mkB) → Num ms → (∀ k ∈ ms, stOk c k) → ms.length ≤ 60 → R (.tup (forD dn dead 0 0 false (sortM ms))) m
end DL
end
section
set_option maxHeartbeats 0
namespace DL
open PySem
def psi_is_strike_t2 (A : Ad) : WS := wRet (wAndV (wCallB wIsi (wCons (wOp wIx (wVar 1) (wC (.int 3))) (wCons (wC (.ty "str")) (wNil)))) (wOp wIn (wOp wIx (wVar 1) (wC (.int 3))) (wC (.tup G_COLOURS))))
def psi_is_strike_t1 (A : Ad) : WS := wSeq (wIfS (wOr (wNot (wTest (wCall 3 (ph_is_whole A) (wCons (wOp wIx (wVar 1) (wC (.int 1))) (wCons (wC (.int 0)) (wCons (wOp wSub (wCall 1 (ph_end_of A) (wCons (wVar 0) (wNil))) (wC (.int 2))) (wNil))))))) (wNot (wTest (wCall 2 (ph_is_one_of A) (wCons (wOp wIx (wVar 1) (wC (.int 2))) (wCons (wOp (wAdd false) (wC (.str G_SIGNS)) (wC (.str G_GREAT))) (wNil))))))) (wRet (wC (.bl false))) (wNext)) (psi_is_strike_t2 A)
def psi_is_strike (A : Ad) : WS := wSeq (wIfS (wOr (wNot (wTest (wCallB wIsi (wCons (wVar 1) (wCons (wC (.ty "tuple")) (wNil)))))) (wOr (wTest (wOp wNe (wCallB wLen (wCons (wVar 1) (wNil))) (wC (.int 4)))) (wNot (wTest (wCall 3 (ph_is_whole A) (wCons (wOp wIx (wVar 1) (wC (.int 0))) (wCons (wC (.int 0)) (wCons (wC (.int 60)) (wNil))))))))) (wRet (wC (.bl false))) (wNext)) (psi_is_strike_t1 A)
def psi_led (A : Ad) : WS := wSeq (wSet 2 (wOp (wMul true) (wLst false (wCons (wTup (wCons (wC (.str (PySem.Str.ofString "back"))) (wNil))) (wNil))) (wCallB wMax2 (wCons (wC (.int 0)) (wCons (wOp wDiv (wOp (wAdd false) (wOp wSub (wVar 0) (wVar 1)) (wC (.int 1))) (wC (.int 2))) (wNil)))))) (wSeq (wSet 0 (wOp wSub (wVar 0) (wOp (wMul false) (wC (.int 2)) (wCallB wLen (wCons (wVar 2) (wNil)))))) (wSeq (wExp (wMt "list" wExtend (wVar 2) (wCons (wOp (wAdd false) (wOp (wMul false) (wLst false (wCons (wTup (wCons (wC (.str (PySem.Str.ofString "blank"))) (wNil))) (wNil))) (wOp wDiv (wOp wSub (wVar 1) (wVar 0)) (wC (.int 2)))) (wOp (wMul false) (wLst false (wCons (wTup (wCons (wC (.str (PySem.Str.ofString "half"))) (wNil))) (wNil))) (wOp wMod (wOp wSub (wVar 1) (wVar 0)) (wC (.int 2))))) (wNil)))) (wRet (wFrz (wVar 2)))))
def psi_home_row (A : Ad) : WS := wRet (wIf (wTest (wOp wLe (wOp (wAdd false) (wVar 1) (wOp wIx (wVar 0) (wC (.int 2)))) (wC (.int 60)))) (wOp (wAdd false) (wVar 1) (wOp wIx (wVar 0) (wC (.int 2)))) (wVar 1))
def psi_home (A : Ad) : WS := wSeq (wIfS (wTest (wOp wGt (wOp (wAdd false) (wVar 1) (wOp wIx (wVar 0) (wC (.int 2)))) (wC (.int 60)))) (wRet (wOp (wAdd false) (wOp (wMul false) (wLst false (wCons (wTup (wCons (wC (.str (PySem.Str.ofString "up"))) (wNil))) (wNil))) (wOp wIx (wVar 0) (wC (.int 2)))) (wLst false (wCons (wTup (wCons (wC (.str (PySem.Str.ofString "return"))) (wNil))) (wNil))))) (wNext)) (wRet (wLst false (wCons (wTup (wCons (wC (.str (PySem.Str.ofString "return"))) (wNil))) (wNil))))
def psi_keys_for_t5 (A : Ad) : WS := wRet (wFgt (wCallB wTuple (wCons (wVar 2) (wNil))))
def psi_keys_for_t4 (A : Ad) : WS := wSeq (wFor (iSeq (wCallB (wSortD false) (wCons (wLc false [8, 11] (iEnumL (wVar 1)) (gTp [8, 11]) (wYes) (wTup (wCons (wOp wIx (wVar 11) (wC (.int 0))) (wCons (wOp wIx (wVar 11) (wC (.int 1))) (wCons (wVar 8) (wNil)))))) (wNil)))) (gTp [6, 7, 8]) (wSeq (wAsg (wSl (wCut false) (wOp wIx (wVar 1) (wVar 8)) (oSome (wC (.int 2))) (oNone)) (gTp [9, 10])) (wSeq (wIfS (wAnd (wTest (wOp wGt (wVar 6) (wVar 3))) (wTest (wOp wGt (wVar 4) (wC (.int 0))))) (wSeq (wExp (wMt "list" wExtend (wVar 2) (wCons (wCall 2 (ph_home A) (wCons (wVar 0) (wCons (wVar 3) (wNil)))) (wNil)))) (wPar 3 4 (wCons (wCall 2 (ph_home_row A) (wCons (wVar 0) (wCons (wVar 3) (wNil)))) (wCons (wC (.int 0)) (wNil))))) (wNext)) (wSeq (wExp (wMt "list" wExtend (wVar 2) (wCons (wOp (wAdd false) (wOp (wAdd false) (wOp (wMul false) (wLst false (wCons (wTup (wCons (wC (.str (PySem.Str.ofString "down"))) (wNil))) (wNil))) (wOp wSub (wVar 6) (wVar 3))) (wOp (wMul false) (wLst false (wCons (wTup (wCons (wC (.str (PySem.Str.ofString "up"))) (wNil))) (wNil))) (wOp wSub (wVar 3) (wVar 6)))) (wCall 2 (ph_led A) (wCons (wVar 4) (wCons (wVar 7) (wNil))))) (wNil)))) (wSeq (wIfS (wTest (wOp wNe (wVar 10) (wVar 5))) (wExp (wMt "list" wAppend (wVar 2) (wCons (wTup (wCons (wC (.str (PySem.Str.ofString "ribbon"))) (wNil))) (wNil)))) (wNext)) (wSeq (wExp (wMt "list" wExtend (wVar 2) (wCons (wFrz (wCall 1 (ph_keys_of A) (wCons (wVar 9) (wNil)))) (wNil)))) (wPar3 3 4 5 (wCons (wVar 6) (wCons (wIf (wTest (wOp wIn (wVar 9) (wOp wIx (wVar 0) (wC (.int 1))))) (wVar 7) (wOp (wAdd false) (wVar 7) (wC (.int 2)))) (wCons (wVar 10) (wNil))))))))))) (psi_keys_for_t5 A)
def psi_keys_for_t3 (A : Ad) : WS := wSeq (wAsg (wTup (wCons (wC (.int 0)) (wCons (wC (.int 0)) (wCons (wC (.str (PySem.Str.ofString "black"))) (wNil))))) (gTp [3, 4, 5])) (psi_keys_for_t4 A)
def psi_keys_for_t2 (A : Ad) : WS := wSeq (wSet 2 (wLst true (wNil))) (psi_keys_for_t3 A)
def psi_keys_for_t1 (A : Ad) : WS := wSeq (wIfS (wOr (wNot (wTest (wCallB wIsi (wCons (wVar 1) (wCons (wC (.ty "list")) (wNil)))))) (wOr (wTest (wOp wGt (wCallB wLen (wCons (wVar 1) (wNil))) (wC (.int 60)))) (wNot (wTest (wCallB wAll (wCons (wLc false [11] (iSeq (wVar 1)) (gNm 11) (wYes) (wCall 2 (ph_is_strike A) (wCons (wVar 0) (wCons (wVar 11) (wNil))))) (wNil))))))) (wRaise A.xNoStrikes) (wNext)) (psi_keys_for_t2 A)
def psi_keys_for (A : Ad) : WS := wSeq (wExp (wCall 1 (ph_need_machine A) (wCons (wVar 0) (wNil)))) (psi_keys_for_t1 A)
end DL
end
section
set_option maxHeartbeats 0
namespace DL
open PySem
theorem backs_nn (p g : Int) : 0 ≤ backs p g := by unfold backs; omega
theorem backs_le {p g : Int} (h0 : 0 ≤ p) (hg : 0 ≤ g) : 2 * backs p g ≤ p + 1 ∧ g - (p - 2 * backs p g) ≥ 0 := by unfold backs; omega
theorem in_dead2 {A : Ad} (hA : AdOk A) {dead : List Nat} {k : Nat} {m : Store} {R : KD} (h : R (.bl (decide (k ∈ dead))) m) : wIn (ch k) (.tup (dead.map ch)) m R := by
  have e : inD (ch k) (dead.map ch) = decide (k ∈ dead) := by
    simp only [inD, List.any_map]
    rw [Bool.eq_iff_iff]
    simp [eqD, Function.comp]
  refine ⟨rfl, by simp [flatD], ?_⟩
  rw [e]
  exact h
def keepG (d : D) (xs : List D) : Store → Prop := match d with
  | .ref a => fun m' => m' a = some (.lst xs)
  | _ => fun _ => True
theorem keep_ok {d : D} {xs : List D} {m : Store} (h : asL m d = some xs) : keepG d xs m := by
  cases d with
  | ref a =>
    simp [asL] at h
    show m a = some (.lst xs)
    cases e : m a with
    | none => simp [e] at h
    | some o => cases o <;> simp [e] at h; rw [h]
  | _ => trivial
theorem seq_asI {d : D} {xs : List D} {m : Store} (h : asL m d = some xs) (K : List D → (Store → Prop) → Prop) (hK : K xs (keepG d xs)) : asI m d K := by
  cases d with
  | ref a =>
    have : m a = some (.lst xs) := keep_ok h
    simp only [asI, this]; exact hK
  | lst ys => simp [asL] at h; subst h; exact hK
  | _ => simp [asL] at h
theorem seq_len {d : D} {xs : List D} {m : Store} (h : asL m d = some xs) (K : KD) : wLen [d] m K = K (.int (xs.length : Nat)) m := by
  cases d with
  | ref a => simp [wLen, asQ, h]
  | lst ys => simp [wLen, asQ, h]
  | _ => simp [asL] at h
theorem seq_ix {d : D} {xs : List D} {m : Store} (h : asL m d = some xs) {i : Nat} {v : D} (hv : xs[i]? = some v) (K : KD) : wIx d (.int (i : Nat)) m K = K v m := by
  have hi : i < xs.length := by
    rcases Nat.lt_or_ge i xs.length with z | z
    · exact z
    · rw [List.getElem?_eq_none z] at hv; cases hv
  have e : atL xs ((i : Nat) : Int) = some v := by
    unfold atL; rw [ixA, if_pos hi]; exact hv
  cases d with
  | ref a => simp only [wIx, asQ, h, ok_some, e]
  | lst ys => simp only [wIx, asQ, h, ok_some, e]
  | _ => simp [asL] at h
theorem seq_enum {d : D} {xs : List D} {m : Store} (h : asL m d = some xs) {w : WE} {r : Env} {x : XD} (hw : ∀ K : KD, w r m K x = K d m) (K : List D → (Store → Prop) → Store → Prop) (hK : K (enumD 0 xs) (keepG d xs) m) : iEnumL w r m K x := by
  simp only [iEnumL, hw]
  cases d with
  | ref a =>
    simp only [h, ok_some]; exact hK
  | lst ys => simp [asL] at h; subst h; exact hK
  | _ => simp [asL] at h
def trip (k : Mk) : D := .tup [.int k.row, .int k.place, .int k.n]
theorem lc_trip {G : Store → Prop} {m : Store} {v0 v1 v2 v3 v4 v5 v6 v7 v8 v9 v10 v11 : Option D} (hG : G m) : ∀ (ms : List Mk) (n : Nat) (acc : List D) (K : List D → Store → Prop), (∀ (i : Nat) (k : Mk), ms[i]? = some k → k.n = ((n + i : Nat) : Int)) → acc.length + ms.length ≤ LIM → K (acc ++ ms.map trip) m →
    wLcL G [8, 11] (gTp [8, 11]) (wYes) (wTup (wCons (wOp wIx (wVar 11) (wC (.int 0))) (wCons (wOp wIx (wVar 11) (wC (.int 1))) (wCons (wVar 8) (wNil))))) [v0, v1, v2, v3, v4, v5, v6, v7, v8, v9, v10, v11] (enumD n (ms.map mkB)) acc m K
  | [], n, acc, K, _, _, h => ⟨hG, by simpa using h⟩
  | k :: ms, n, acc, K, hn, hl, h => by
    simp only [List.length_cons] at hl
    simp only [List.map_cons, enumD]
    refine ⟨hG, ?_⟩
    have i0 : ∀ (m : Store) (K : KD), wIx (mkB k) (.int 0) m K = K (.int k.row) m := fun _ _ => rfl
    have i1 : ∀ (m : Store) (K : KD), wIx (mkB k) (.int 1) m K = K (.int k.place) m := fun _ _ => rfl
    simp only [e_yes, if_true, i0, i1, s_seq, s_if, s_set, s_ret, s_retN, s_next, s_exp, s_asg, s_for, s_par, s_raise, e_test, e_not, e_and, e_or, e_andV, e_orV, e_notV, e_op, e_un, e_if, e_call, e_callB, e_cons, e_nil, e_tup, e_lst, e_nwF, e_c, e_var, e_sl, e_oSome, e_oNone, e_chain, e_lc, e_seqI, e_mt, e_frz, e_fgt, g_nm, g_tp, putAllS, putAll0, wipeS, wipe0, getS, get0, putS, put0, ok_some]
    have e : (.int (n : Int) : D) = .int k.n := by have := hn 0 k rfl; rw [this]; rfl
    refine ⟨rfl, by show 3 ≤ LIM; decide, by omega, ?_⟩
    rw [e]
    refine lc_trip hG ms (n + 1) _ K (fun i j hij => ?_) (by simp; omega) (by simpa [trip] using h)
    have := hn (i + 1) j (by simpa using hij)
    rw [this]; omega
theorem step_len {c dn row place : Int} {dead : List Nat} {red : Bool} {k : Mk} (hM : MOk c dead dn) (hk : stOk c k) (r0 : 0 ≤ row) (r1 : row ≤ 60) (p0 : 0 ≤ place) (p1 : place ≤ 2 * c) : (stepD dn dead row place red k).length ≤ 480 := by
  have hc := hM.hi
  have d2 := hM.d2
  have d4 := hM.d4
  obtain ⟨kr0, kr1, kp0, kp1, ksg⟩ := hk
  have hhl : ((homeK dn row).map kyD).length ≤ 10 := by
    unfold homeK; split <;> simp; omega
  have ll : ∀ q : Int, 0 ≤ q → q ≤ 2 * c → (ledD q k.place).length ≤ 300 := by
    intro q q0 q1
    have b0 := backs_nn q k.place
    obtain ⟨b1, b2⟩ := backs_le q0 kp0
    simp only [ledD, onD, List.length_append, List.length_replicate]; omega
  have kl := keysOf_len [k.sign]
  simp only [List.length_cons, List.length_nil] at kl
  have hr : (if k.red = red then [] else [k1 "ribbon"] : List D).length ≤ 1 := by split <;> simp
  have hh : homeR dn row ≤ 60 ∧ 0 ≤ homeR dn row := by unfold homeR; split <;> omega
  unfold stepD
  simp only
  split
  · have := ll 0 (by omega) (by omega)
    simp only [List.length_append, List.length_replicate]
    omega
  · have := ll place p0 p1
    simp only [List.length_append, List.length_replicate, List.length_nil]
    omega
def psQ3 (A : Ad) : WS := (wSeq (wExp (wMt "list" wExtend (wVar 2) (wCons (wFrz (wCall 1 (ph_keys_of A) (wCons (wVar 9) (wNil)))) (wNil)))) (wPar3 3 4 5 (wCons (wVar 6) (wCons (wIf (wTest (wOp wIn (wVar 9) (wOp wIx (wVar 0) (wC (.int 1))))) (wVar 7) (wOp (wAdd false) (wVar 7) (wC (.int 2)))) (wCons (wVar 10) (wNil))))))
def psQ2 (A : Ad) : WS := (wSeq (wExp (wMt "list" wExtend (wVar 2) (wCons (wOp (wAdd false) (wOp (wAdd false) (wOp (wMul false) (wLst false (wCons (wTup (wCons (wC (.str (PySem.Str.ofString "down"))) (wNil))) (wNil))) (wOp wSub (wVar 6) (wVar 3))) (wOp (wMul false) (wLst false (wCons (wTup (wCons (wC (.str (PySem.Str.ofString "up"))) (wNil))) (wNil))) (wOp wSub (wVar 3) (wVar 6)))) (wCall 2 (ph_led A) (wCons (wVar 4) (wCons (wVar 7) (wNil))))) (wNil)))) (wSeq (wIfS (wTest (wOp wNe (wVar 10) (wVar 5))) (wExp (wMt "list" wAppend (wVar 2) (wCons (wTup (wCons (wC (.str (PySem.Str.ofString "ribbon"))) (wNil))) (wNil)))) (wNext)) (psQ3 A)))
variable {A : Ad} (hA : AdOk A)
include hA
theorem dt_home_row : ∀ ds m R x, ph_home_row A ds m R x → psi_home_row A (startD 2 ds) m (endD R x) := by
  rintro ds m R x ⟨c, dead, dn, row, rfl, h⟩
  have i2 : ∀ (m : Store) (K : KD), wIx (machD c dead dn) (.int 2) m K = K (.int dn) m := fun _ _ => rfl
  simp [psi_home_row, i2, wAdd, wLe]
  unfold homeR at h
  by_cases e : row + dn ≤ 60
  · simp [e] at h ⊢; exact h
  · simp [e] at h ⊢; exact h
theorem dt_home : ∀ ds m R x, ph_home A ds m R x → psi_home A (startD 2 ds) m (endD R x) := by
  rintro ds m R x ⟨c, dead, dn, row, rfl, hM, h⟩
  have L : LIM = 16777216 := rfl
  have d2 := hM.d2
  have d4 := hM.d4
  have i2 : ∀ (m : Store) (K : KD), wIx (machD c dead dn) (.int 2) m K = K (.int dn) m := fun _ _ => rfl
  simp [psi_home, i2, wAddI, wGt]
  unfold homeK at h
  by_cases e : 60 < row + dn
  · simp [e] at h ⊢
    simp [wMul, asL, repD_one, wAdd]
    exact ⟨by omega, by omega, by omega, by omega, by omega, by omega, h⟩
  · simp [e] at h ⊢
    exact ⟨by omega, h⟩
theorem dt_led : ∀ ds m R x, ph_led A ds m R x → psi_led A (startD 3 ds) m (endD R x) := by
  rintro ds m R x ⟨p, g, rfl, h0, h1, h2, h3, h⟩
  have L : LIM = 16777216 := rfl
  have b0 := backs_nn p g
  obtain ⟨b1, b2⟩ := backs_le h0 h2
  have eb : (if (p - g + 1) / 2 > 0 then (p - g + 1) / 2 else 0) = backs p g := by unfold backs; split <;> omega
  have eb2 : (if 0 < (p - g + 1) / 2 then (p - g + 1) / 2 else 0) = backs p g := by unfold backs; split <;> omega
  simp [psi_led, wSub, wAddI, wDiv, wMax2, eb, eb2]
  refine ⟨by decide, ?_⟩
  simp only [wMul, asL]
  refine ⟨_, rfl, by omega, by omega, by simp; omega, ?_⟩
  simp [repD_one]
  intro a na
  simp [wLen, asQ, asL, sup_same, wMul, wSub, wDiv, wMod, tyM, repD_one]
  have em : max (backs p g) 0 = backs p g := by omega
  rw [em]
  refine ⟨by omega, by omega, by omega, by omega, by omega, by omega, by omega, by omega, ?_⟩
  refine ⟨_, _, rfl, rfl, by simp; omega, ?_⟩
  simp [wExtend, sup_same, asL, sup_sup, sdel_sup na]
  exact ⟨by omega, h⟩
theorem dt_is_strike : ∀ ds m R x, ph_is_strike A ds m R x → psi_is_strike A (startD 2 ds) m (endD R x) := by
  rintro ds m R x ⟨c, dead, dn, d, rfl, hM, ⟨ht, hs⟩, h⟩
  have L : LIM = 16777216 := rfl
  obtain ⟨n, hn⟩ := Option.isSome_iff_exists.mp ht
  simp [psi_is_strike, wIsi]
  refine ok_iff.mpr ⟨n, hn, ?_⟩
  by_cases hd : ∃ xs, d = .tup xs
  · obtain ⟨xs, rfl⟩ := hd
    simp [tyN] at hn
    subst hn
    have hs := hs xs rfl
    have et : isiN "tuple" "tuple" = true := rfl
    simp [et, wLen, asQ, wNeI]
    by_cases hl : xs.length = 4
    · obtain ⟨a, b, s, w, rfl⟩ : ∃ a b s w, xs = [a, b, s, w] := by
        match xs, hl with
        | [a, b, s, w], _ => exact ⟨a, b, s, w, rfl⟩
      have i0 : ∀ (m : Store) (K : KD), wIx (.tup [a, b, s, w]) (.int 0) m K = K a m := fun _ _ => rfl
      have i1 : ∀ (m : Store) (K : KD), wIx (.tup [a, b, s, w]) (.int 1) m K = K b m := fun _ _ => rfl
      have i2 : ∀ (m : Store) (K : KD), wIx (.tup [a, b, s, w]) (.int 2) m K = K s m := fun _ _ => rfl
      have i3 : ∀ (m : Store) (K : KD), wIx (.tup [a, b, s, w]) (.int 3) m K = K w m := fun _ _ => rfl
      simp [i0]
      refine ⟨_, _, _, rfl, (hs a (by simp)).1 m, ?_⟩
      simp only [strikeB] at h
      cases h1 : wholeB a 0 60 with
      | false => rw [h1] at h; simpa using h
      | true =>
        rw [h1] at h
        simp [psi_is_strike_t1, i1]
        refine ⟨_, _, _, rfl, hM, ?_⟩
        simp [wSub]
        refine ⟨_, _, _, rfl, (hs b (by simp)).1 m, ?_⟩
        cases h2 : wholeB b 0 (2 * c - 2) with
        | false => rw [h2] at h; simpa using h
        | true =>
          rw [h2] at h
          have hz : G_SIGNS.length + G_GREAT.length ≤ LIM := by decide +kernel
          simp [i2, wAdd, hz]
          refine ⟨_, _, rfl, (hs s (by simp)).1 m, fun t e => by have := (hs s (by simp)).2 t e; omega, ?_⟩
          cases h3 : oneOfB s (G_SIGNS ++ G_GREAT) with
          | false => rw [h3] at h; simpa using h
          | true =>
            rw [h3] at h
            simp [psi_is_strike_t2, i3, wIsi]
            obtain ⟨nw, hnw⟩ := Option.isSome_iff_exists.mp ((hs w (by simp)).1 m)
            refine ok_iff.mpr ⟨nw, hnw, ?_⟩
            simp only [Bool.true_and] at h
            cases w with
            | str t =>
              simp [tyN] at hnw
              subst hnw
              have es : isiN "str" "str" = true := rfl
              simp only [es]
              refine ⟨rfl, by simp [G_COLOURS, wordD, flatD], ?_⟩
              have e : inD (.str t) G_COLOURS = colB (.str t) := by
                simp [inD, G_COLOURS, wordD, eqD, colB]
                congr 1 <;> exact decide_eq_decide.mpr eq_comm
              rw [e]; exact h
            | ref a =>
              simp [tyN] at hnw
              simp only [colB] at h
              cases e : m a with
              | none => simp [e] at hnw
              | some o => cases o <;> simp [e] at hnw <;> subst hnw <;> simpa [isiN] using h
            | _ => simp [tyN] at hnw <;> subst hnw <;> simpa [isiN, colB] using h
    · have hl' : ¬ ((xs.length : Int) = 4) := by omega
      simp [hl']
      have e : strikeB c (.tup xs) = false := by
        unfold strikeB
        split
        · rename_i heq; cases heq; simp at hl
        · rfl
      rw [e] at h
      exact h
  · have e : strikeB c d = false := by
      unfold strikeB
      split
      · exact absurd ⟨_, rfl⟩ hd
      · rfl
    have e2 : isiN n "tuple" = false := by
      have : n ≠ "tuple" := by
        rintro rfl
        cases d with
        | tup xs => exact hd ⟨_, rfl⟩
        | ref a =>
          simp [tyN] at hn
          cases e : m a with
          | none => simp [e] at hn
          | some o => cases o <;> simp [e] at hn
        | _ => simp [tyN] at hn
      simp [isiN, this]
    simp [e2]
    rw [e] at h
    simpa using h
theorem kf_body {c dn : Int} {dead : List Nat} (hM : MOk c dead dn) {d : D} {m : Store} {ka : Addr} {R : KD} {x : XD} {k : Mk} (hk : stOk c k) {row place : Int} {red : Bool} {acc : List D} (r0 : 0 ≤ row) (r1 : row ≤ 60) (p0 : 0 ≤ place) (p1 : place ≤ 2 * c) (hacc : acc.length ≤ 30000)
    (hix : ∀ (acc : List D) (K : KD), wIx d (.int k.n) (sup m ka (.lst acc)) K = K (mkB k) (sup m ka (.lst acc))) {v6 v7 v8 v9 v10 v11 : Option D} {P : Env → Store → Prop} {K : SK}
    (hP : ∀ v6 v7 v8 v9 v10, P [some (machD c dead dn), some d, some (.ref ka), some (.int k.row), some (.int (if k.sign ∈ dead then k.place else k.place + 2)), some (colD k.red), v6, v7, v8, v9, v10, v11] (sup m ka (.lst (acc ++ stepD dn dead row place red k)))) :
    gTp [6, 7, 8] (.tup [.int k.row, .int k.place, .int k.n]) [some (machD c dead dn), some d, some (.ref ka), some (.int row), some (.int place), some (colD red), v6, v7, v8, v9, v10, v11] (sup m ka (.lst acc)) fun r' m' =>
      (wSeq (wAsg (wSl (wCut false) (wOp wIx (wVar 1) (wVar 8)) (oSome (wC (.int 2))) (oNone)) (gTp [9, 10])) (wSeq (wIfS (wAnd (wTest (wOp wGt (wVar 6) (wVar 3))) (wTest (wOp wGt (wVar 4) (wC (.int 0))))) (wSeq (wExp (wMt "list" wExtend (wVar 2) (wCons (wCall 2 (ph_home A) (wCons (wVar 0) (wCons (wVar 3) (wNil)))) (wNil)))) (wPar 3 4 (wCons (wCall 2 (ph_home_row A) (wCons (wVar 0) (wCons (wVar 3) (wNil)))) (wCons (wC (.int 0)) (wNil))))) (wNext)) (psQ2 A))) r' m' { K with nx := P, ct := P, bk := K.nx } := by
  have L : LIM = 16777216 := rfl
  have hc := hM.hi
  have d2 := hM.d2
  have d4 := hM.d4
  obtain ⟨kr0, kr1, kp0, kp1, ksg⟩ := hk
  have ct : ∀ (m : Store) (K : KD), wCut false (mkB k) (some 2) none m K = K (.tup [ch k.sign, colD k.red]) m := fun _ _ => rfl
  have i1 : ∀ (m : Store) (K : KD), wIx (machD c dead dn) (.int 1) m K = K (.tup (dead.map ch)) m := fun _ _ => rfl
  have hhl : ((homeK dn row).map kyD).length ≤ 10 := by
    unfold homeK; split <;> simp; omega
  -- behind home
  have rest : ∀ (row1 place1 : Int) (ac : List D) (u6 u7 u8 u9 u10 : Option D), 0 ≤ row1 → row1 ≤ 60 → 0 ≤ place1 → place1 ≤ 2 * c → ac.length ≤ 30100 →
      ac ++ ((List.replicate (k.row - row1).toNat (k1 "down") ++ List.replicate (row1 - k.row).toNat (k1 "up") ++ ledD place1 k.place) ++ (if k.red = red then [] else [k1 "ribbon"]) ++ keysOf [k.sign]) = acc ++ stepD dn dead row place red k →
      (psQ2 A) [some (machD c dead dn), some d, some (.ref ka), some (.int row1), some (.int place1), some (colD red), some (.int k.row), some (.int k.place), u8, some (ch k.sign), some (colD k.red), v11] (sup m ka (.lst ac)) { K with nx := P, ct := P, bk := K.nx } := by
    intro row1 place1 ac u6 u7 u8 u9 u10 q0 q1 s0 s1 hac he
    have b0 := backs_nn place1 k.place
    obtain ⟨b1, b2⟩ := backs_le s0 kp0
    have ll : (ledD place1 k.place).length ≤ 300 := by
      simp only [ledD, onD, List.length_append, List.length_replicate]; omega
    simp only [psQ2, wSub, wMul, asL, tyM, sup_same, s_seq, s_if, s_set, s_ret, s_retN, s_next, s_exp, s_asg, s_for, s_par, s_raise, e_test, e_not, e_and, e_or, e_andV, e_orV, e_notV, e_op, e_un, e_if, e_call, e_callB, e_cons, e_nil, e_tup, e_lst, e_nwF, e_c, e_var, e_sl, e_oSome, e_oNone, e_chain, e_lc, e_seqI, e_mt, e_frz, e_fgt, g_nm, g_tp, putAllS, putAll0, wipeS, wipe0, getS, get0, putS, put0, ok_some]
    refine ⟨trivial, by decide, by decide, _, rfl, by omega, by omega, by simp; omega, by decide, by decide, _, rfl, by omega, by omega, by simp; omega, ?_⟩
    simp only [repD_one]
    refine ⟨_, _, rfl, rfl, by simp; omega, ?_⟩
    refine ⟨rfl, _, _, rfl, s0, by omega, kp0, by omega, ?_⟩
    refine ⟨_, _, rfl, rfl, ?_, ?_⟩
    · simp; omega
    refine ⟨_, _, sup_same, rfl, ?_, ?_⟩
    · simp; omega
    rw [sup_sup]
    have hne : ∀ (m : Store) (K : KD), wNe (colD k.red) (colD red) m K = K (.bl (!decide (k.red = red))) m := fun m K => by
      cases k.red <;> cases red <;> rfl
    simp only [hne]
    -- the ribbon
    have fin : ∀ ac2 : List D, ac2.length ≤ 31000 → ac2 ++ keysOf [k.sign] = acc ++ stepD dn dead row place red k → (psQ3 A) [some (machD c dead dn), some d, some (.ref ka), some (.int row1), some (.int place1), some (colD red), some (.int k.row), some (.int k.place), u8, some (ch k.sign), some (colD k.red), v11] (sup m ka (.lst ac2)) { K with nx := P, ct := P, bk := K.nx } := by
      intro ac2 hl2 he2
      simp only [psQ3, tyM, sup_same, s_seq, s_if, s_set, s_ret, s_retN, s_next, s_exp, s_asg, s_for, s_par, s_raise, e_test, e_not, e_and, e_or, e_andV, e_orV, e_notV, e_op, e_un, e_if, e_call, e_callB, e_cons, e_nil, e_tup, e_lst, e_nwF, e_c, e_var, e_sl, e_oSome, e_oNone, e_chain, e_lc, e_seqI, e_mt, e_frz, e_fgt, g_nm, g_tp, putAllS, putAll0, wipeS, wipe0, getS, get0, putS, put0, ok_some]
      refine ⟨trivial, rfl, ⟨#[k.sign]⟩, rfl, by show 1 ≤ 1000; decide, fun kb nkb => ?_⟩
      refine ⟨kb, _, rfl, sup_same, ?_⟩
      rw [sdel_sup nkb]
      have kl := keysOf_len [k.sign]
      simp only [wExtend, sup_same, asL, sup_sup]
      refine ⟨_, _, rfl, rfl, by simp at kl ⊢; omega, ?_⟩
      have el : (⟨#[k.sign]⟩ : Str).cps.toList = [k.sign] := rfl
      rw [he2]
      simp only [s_par3, i1, s_seq, s_if, s_set, s_ret, s_retN, s_next, s_exp, s_asg, s_for, s_par, s_raise, e_test, e_not, e_and, e_or, e_andV, e_orV, e_notV, e_op, e_un, e_if, e_call, e_callB, e_cons, e_nil, e_tup, e_lst, e_nwF, e_c, e_var, e_sl, e_oSome, e_oNone, e_chain, e_lc, e_seqI, e_mt, e_frz, e_fgt, g_nm, g_tp, putAllS, putAll0, wipeS, wipe0, getS, get0, putS, put0, ok_some]
      refine in_dead2 hA ?_
      by_cases e : k.sign ∈ dead
      · simp only [e, decide_true, if_true]
        have := hP (some (.int k.row)) (some (.int k.place)) u8 (some (ch k.sign)) (some (colD k.red))
        rw [if_pos e] at this
        exact this
      · simp only [e, decide_false, Bool.false_eq_true, if_false]
        have := hP (some (.int k.row)) (some (.int k.place)) u8 (some (ch k.sign)) (some (colD k.red))
        rw [if_neg e] at this
        simp only [wAddI, s_seq, s_if, s_set, s_ret, s_retN, s_next, s_exp, s_asg, s_for, s_par, s_raise, e_test, e_not, e_and, e_or, e_andV, e_orV, e_notV, e_op, e_un, e_if, e_call, e_callB, e_cons, e_nil, e_tup, e_lst, e_nwF, e_c, e_var, e_sl, e_oSome, e_oNone, e_chain, e_lc, e_seqI, e_mt, e_frz, e_fgt, g_nm, g_tp, putAllS, putAll0, wipeS, wipe0, getS, get0, putS, put0, ok_some]
        exact this
    by_cases er : k.red = red
    · have ed : decide (k.red = red) = true := decide_eq_true er
      simp only [ed, Bool.not_true, Bool.false_eq_true, if_false, s_next]
      simp only [er, if_true, List.append_nil] at he
      refine fin _ (by simp; omega) ?_
      rw [← he]; simp [k1, wordD]
    · simp only [er, decide_false, Bool.not_false, if_true]
      simp only [er, if_false] at he
      simp only [tyM, sup_same, wAppend, sup_sup, s_seq, s_if, s_set, s_ret, s_retN, s_next, s_exp, s_asg, s_for, s_par, s_raise, e_test, e_not, e_and, e_or, e_andV, e_orV, e_notV, e_op, e_un, e_if, e_call, e_callB, e_cons, e_nil, e_tup, e_lst, e_nwF, e_c, e_var, e_sl, e_oSome, e_oNone, e_chain, e_lc, e_seqI, e_mt, e_frz, e_fgt, g_nm, g_tp, putAllS, putAll0, wipeS, wipe0, getS, get0, putS, put0, ok_some]
      refine ⟨trivial, by decide, _, rfl, ?_, ?_⟩
      · simp; omega
      refine fin _ (by simp; omega) ?_
      rw [← he]; simp [k1, wordD]
  simp only [hix, ct, wGt, s_seq, s_if, s_set, s_ret, s_retN, s_next, s_exp, s_asg, s_for, s_par, s_raise, e_test, e_not, e_and, e_or, e_andV, e_orV, e_notV, e_op, e_un, e_if, e_call, e_callB, e_cons, e_nil, e_tup, e_lst, e_nwF, e_c, e_var, e_sl, e_oSome, e_oNone, e_chain, e_lc, e_seqI, e_mt, e_frz, e_fgt, g_nm, g_tp, putAllS, putAll0, wipeS, wipe0, getS, get0, putS, put0, ok_some]
  refine ⟨rfl, rfl, ?_⟩
  by_cases hb : row < k.row ∧ 0 < place
  · have hb' : (decide (row < k.row) && decide (0 < place)) = true := by simp [hb]
    simp only [hb.1, hb.2, decide_true, if_true]
    simp only [tyM, sup_same, wExtend, asL, sup_sup, s_seq, s_if, s_set, s_ret, s_retN, s_next, s_exp, s_asg, s_for, s_par, s_raise, e_test, e_not, e_and, e_or, e_andV, e_orV, e_notV, e_op, e_un, e_if, e_call, e_callB, e_cons, e_nil, e_tup, e_lst, e_nwF, e_c, e_var, e_sl, e_oSome, e_oNone, e_chain, e_lc, e_seqI, e_mt, e_frz, e_fgt, g_nm, g_tp, putAllS, putAll0, wipeS, wipe0, getS, get0, putS, put0, ok_some]
    refine ⟨trivial, rfl, c, dead, dn, row, rfl, hM, ?_⟩
    refine ⟨_, _, sup_same, rfl, ?_, ?_⟩
    · omega
    rw [sup_sup]
    refine ⟨rfl, c, dead, dn, row, rfl, ?_⟩
    refine rest (homeR dn row) 0 _ none none _ none none ?_ ?_ (by omega) (by omega) (by rw [List.length_append]; omega) ?_
    · unfold homeR; split <;> omega
    · unfold homeR; split <;> omega
    · simp [stepD, hb']
  · have hb' : (decide (row < k.row) && decide (0 < place)) = false := by
      rw [Bool.and_eq_false_iff]
      by_cases h1 : row < k.row
      · right; simp; omega
      · left; simp; omega
    have key : ∀ (X Y : Prop), Y → (if decide (row < k.row) = true then (if decide (0 < place) = true then X else Y) else Y) := by
      intro X Y hY
      split
      · split
        · rename_i a b; exact absurd ⟨by simpa using a, by simpa using b⟩ hb
        · exact hY
      · exact hY
    refine key _ _ ?_
    refine rest row place acc none none _ none none r0 r1 p0 p1 (by omega) ?_
    simp [stepD, hb']
theorem num_of {c : Int} : ∀ (xs : List D) (n : Nat), (∀ d ∈ xs, strikeB c d = true) → ∃ ms : List Mk, xs = ms.map mkB ∧ (∀ (i : Nat) (k : Mk), ms[i]? = some k → k.n = ((n + i : Nat) : Int)) ∧ ∀ k ∈ ms, stOk c k
  | [], _, _ => ⟨[], rfl, by simp, by simp⟩
  | d :: xs, n, h => by
    obtain ⟨ms, e, h1, h2⟩ := num_of xs (n + 1) fun d hd => h d (List.mem_cons_of_mem _ hd)
    have hd := h d List.mem_cons_self
    obtain ⟨k, ek, kn, ko⟩ : ∃ k : Mk, d = mkB k ∧ k.n = (n : Int) ∧ stOk c k := by
      unfold strikeB at hd
      split at hd
      · rename_i a b s w
        simp only [Bool.and_eq_true] at hd
        obtain ⟨⟨⟨ha, hb⟩, hs⟩, hw⟩ := hd
        cases a <;> simp [wholeB] at ha
        cases b <;> simp [wholeB] at hb
        rename_i a b
        obtain ⟨cs, rfl, hcs⟩ : ∃ g, s = ch g ∧ g ∈ (G_SIGNS ++ G_GREAT).cps.toList := by
          cases s <;> simp only [oneOfB] at hs <;> try exact absurd hs (by decide)
          rename_i t
          split at hs
          · rename_i g eg
            refine ⟨g, ?_, by simpa using hs⟩
            have : t.cps = #[g] := by rw [← Array.toList_inj, eg]
            cases t; simp at this; subst this; rfl
          · exact absurd hs (by decide)
        obtain ⟨red, rfl⟩ : ∃ red, w = colD red := by
          cases w <;> simp [colB] at hw
          rcases hw with e | e
          · subst e; exact ⟨false, rfl⟩
          · subst e; exact ⟨true, rfl⟩
        exact ⟨⟨n, a, b, cs, red⟩, rfl, rfl, ⟨ha.1, ha.2, hb.1, hb.2, hcs⟩⟩
      · exact absurd hd (by decide)
    refine ⟨k :: ms, by simp [ek, e], fun i j hij => ?_, fun j hj => ?_⟩
    · cases i with
      | zero => simp at hij; subst hij; simpa using kn
      | succ i => have := h1 i j (by simpa using hij); rw [this]; omega
    · rcases List.mem_cons.mp hj with z | z
      · subst z; exact ko
      · exact h2 j z
theorem num_pw {ms : List Mk} (h : Num ms) : ms.Pairwise (fun a b => a.n < b.n) := by
  rw [List.pairwise_iff_getElem]
  intro i j hi hj hij
  have e1 := h i ms[i] (List.getElem?_eq_getElem hi)
  have e2 := h j ms[j] (List.getElem?_eq_getElem hj)
  omega
theorem trip_lt (a b : Mk) : ltD (.tup [.int a.row, .int a.place, .int a.n]) (.tup [.int b.row, .int b.place, .int b.n]) = mkLt a b := by
  rw [ltD_cons (alikeD_int _ _) (n := 5) (k := 5) rfl rfl, ltD_cons (alikeD_int _ _) (n := 5) (k := 5) rfl rfl, ltD_cons (alikeD_int _ _) (n := 5) (k := 5) rfl rfl]
  simp only [ltD_int, ltD_nil, eqD]
  rw [Bool.eq_iff_iff, mkLt_iff]
  by_cases h1 : a.row = b.row
  · by_cases h2 : a.place = b.place
    · by_cases h3 : a.n = b.n
      · simp [h1, h2, h3]
      · simp [h1, h2, h3]
    · simp [h1, h2]
  · simp [h1]
theorem dt_keys_for : ∀ ds m R x, ph_keys_for A ds m R x → psi_keys_for A (startD 12 ds) m (endD R x) := by
  rintro ds m R x ⟨dm, d, rfl, h⟩
  have L : LIM = 16777216 := rfl
  simp [psi_keys_for]
  refine ⟨dm, rfl, h.imp fun c dead dn e hM hR => ?_⟩
  subst e
  clear h
  obtain ⟨⟨ht, hs⟩, hno, hyes⟩ := hR
  obtain ⟨n, hn⟩ := Option.isSome_iff_exists.mp ht
  simp only [psi_keys_for_t1, wIsi, List.replicate, s_seq, s_if, s_set, s_ret, s_retN, s_next, s_exp, s_asg, s_for, s_par, s_raise, e_test, e_not, e_and, e_or, e_andV, e_orV, e_notV, e_op, e_un, e_if, e_call, e_callB, e_cons, e_nil, e_tup, e_lst, e_nwF, e_c, e_var, e_sl, e_oSome, e_oNone, e_chain, e_lc, e_seqI, e_mt, e_frz, e_fgt, g_nm, g_tp, putAllS, putAll0, wipeS, wipe0, getS, get0, putS, put0, ok_some]
  refine ⟨by simp, ok_iff.mpr ⟨n, hn, ?_⟩⟩
  cases hxs : asL m d with
  | none =>
    have e2 : isiN n "list" = false := by
      have : n ≠ "list" := by
        rintro rfl
        cases d with
        | lst xs => simp [asL] at hxs
        | ref a =>
          simp [tyN] at hn
          simp [asL] at hxs
          cases e : m a with
          | none => simp [e] at hn
          | some o => cases o <;> simp [e] at hn hxs
        | _ => simp [tyN] at hn
      simp [isiN, this]
    simp [e2]
    exact hno (by simp [strikesB, hxs])
  | some xs =>
    obtain ⟨hl, hw⟩ := hs xs hxs
    have e2 : isiN n "list" = true := by
      have : n = "list" := by
        cases d with
        | lst xs => simp [tyN] at hn; exact hn.symm
        | ref a =>
          simp [tyN] at hn
          simp [asL] at hxs
          cases e : m a with
          | none => simp [e] at hn
          | some o => cases o <;> simp [e] at hn hxs; exact hn.symm
        | _ => simp [asL] at hxs
      simp [isiN, this]
    have h60 : ∀ K : KD, wGt (.int (xs.length : Nat)) (.int 60) m K = K (.bl (decide ((60 : Int) < (xs.length : Int)))) m := fun _ => rfl
    simp only [e2, Bool.not_true, Bool.false_eq_true, if_false, seq_len hxs, h60, s_seq, s_if, s_set, s_ret, s_retN, s_next, s_exp, s_asg, s_for, s_par, s_raise, e_test, e_not, e_and, e_or, e_andV, e_orV, e_notV, e_op, e_un, e_if, e_call, e_callB, e_cons, e_nil, e_tup, e_lst, e_nwF, e_c, e_var, e_sl, e_oSome, e_oNone, e_chain, e_lc, e_seqI, e_mt, e_frz, e_fgt, g_nm, g_tp, putAllS, putAll0, wipeS, wipe0, getS, get0, putS, put0, ok_some]
    by_cases hl60 : 60 < xs.length
    · have z : (60 : Int) < (xs.length : Int) := by omega
      simp only [z, decide_true, if_true]
      refine hno ?_
      simp only [strikesB, hxs, decide_eq_false (show ¬ xs.length ≤ 60 by omega), Bool.false_and]
    have z : ¬ (60 : Int) < (xs.length : Int) := by omega
    simp only [z, decide_false, Bool.false_eq_true, if_false]
    refine seq_asI hxs _ ?_
    refine lc_pure (G := keepG d xs) (fun w => some (.bl (strikeB c w))) (keep_ok hxs) xs [] _ (by simp; omega) (fun w hwm K1 K0 hK => ?_) ?_
    · simp only [e_yes, if_true, s_seq, s_if, s_set, s_ret, s_retN, s_next, s_exp, s_asg, s_for, s_par, s_raise, e_test, e_not, e_and, e_or, e_andV, e_orV, e_notV, e_op, e_un, e_if, e_call, e_callB, e_cons, e_nil, e_tup, e_lst, e_nwF, e_c, e_var, e_sl, e_oSome, e_oNone, e_chain, e_lc, e_seqI, e_mt, e_frz, e_fgt, g_nm, g_tp, putAllS, putAll0, wipeS, wipe0, getS, get0, putS, put0, ok_some]
      exact ⟨rfl, c, dead, dn, w, rfl, hM, hw w hwm m, hK⟩
    have ef : xs.filterMap (fun w => some (D.bl (strikeB c w))) = xs.map fun w => D.bl (strikeB c w) := List.filterMap_eq_map ▸ rfl
    rw [List.nil_append, ef]
    have e : (xs.map fun w => D.bl (strikeB c w)) = (xs.map fun w => strikeB c w).map .bl := by simp
    rw [e]
    refine all_lst ?_
    have e3 : ((xs.map fun w => strikeB c w).all id) = xs.all (strikeB c) := by simp [List.all_map, Function.comp_def]
    rw [e3]
    cases hb : xs.all (strikeB c) with
    | false =>
      simp only [Bool.not_false, if_true]
      refine hno ?_
      simp only [strikesB, hxs, hb, Bool.and_false]
    | true =>
      obtain ⟨ms, rfl, hnum, hok⟩ := num_of hA xs 0 (List.all_eq_true.mp hb)
      have hnum : Num ms := fun i k hik => by have := hnum i k hik; simpa using this
      have hml : ms.length ≤ 60 := by simp at hl60; omega
      have hfin := hyes ms hxs hnum hok hml
      have hpw := num_pw hA hnum
      simp only [Bool.not_true, Bool.false_eq_true, if_false, psi_keys_for_t2, e_nwT, psi_keys_for_t3, List.replicate, s_seq, s_if, s_set, s_ret, s_retN, s_next, s_exp, s_asg, s_for, s_par, s_raise, e_test, e_not, e_and, e_or, e_andV, e_orV, e_notV, e_op, e_un, e_if, e_call, e_callB, e_cons, e_nil, e_tup, e_lst, e_nwF, e_c, e_var, e_sl, e_oSome, e_oNone, e_chain, e_lc, e_seqI, e_mt, e_frz, e_fgt, g_nm, g_tp, putAllS, putAll0, wipeS, wipe0, getS, get0, putS, put0, ok_some]
      refine ⟨by decide, fun ka nka => ⟨by decide, rfl, ?_⟩⟩
      have hk2 : ∀ ac : List D, asL (sup m ka (.lst ac)) d = some (ms.map mkB) := by
        intro ac
        cases d with
        | ref a =>
          have hne : a ≠ ka := by
            rintro rfl
            have := keep_ok hxs
            simp [keepG, nka] at this
          simp only [asL, sup_ne hne]
          simpa [asL] using hxs
        | lst ys => exact hxs
        | _ => simp [asL] at hxs
      have hix : ∀ k ∈ ms, ∀ (ac : List D) (K : KD), wIx d (.int k.n) (sup m ka (.lst ac)) K = K (mkB k) (sup m ka (.lst ac)) := by
        intro k hk ac K
        obtain ⟨i, hi, e⟩ := List.getElem_of_mem hk
        have e4 : ms[i]? = some k := by rw [List.getElem?_eq_getElem hi, e]
        have e5 := hnum i k e4
        rw [e5]
        exact seq_ix (hk2 ac) (by simp [e4]) K
      simp only [psi_keys_for_t4, s_seq, s_for, e_seqI, e_callB, e_cons, e_nil, e_lc]
      refine seq_enum (hk2 []) (fun K => rfl) _ ?_
      refine lc_trip (keep_ok (hk2 [])) ms 0 [] _ (fun i k hik => by have := hnum i k hik; simpa using this) (by simp; omega) ?_
      rw [List.nil_append]
      simp only [e_nwF]
      refine sort_by trip mkLt ms rfl (fun k _ => rfl) (fun a _ b _ => rfl) (.inl fun d hd => ?_) (fun a _ b _ => trip_lt hA a b) fun ys hp hs => ?_
      · obtain ⟨k, _, rfl⟩ := List.mem_map.mp hd; exact ⟨_, _, rfl⟩
      have ey := sortM_is hpw hp hs
      subst ey
      simp only [e_nwF, asI]
      have hsk : ∀ k ∈ sortM ms, k ∈ ms := fun k hk => hp.mem_iff.mp hk
      have hsl : (sortM ms).length = ms.length := hp.length_eq
      generalize sortM ms = S at hfin hsk hsl ⊢
      refine for_inv (fun ds e m' => ∃ (ks : List Mk) (row place : Int) (red : Bool) (ac : List D) (v6 v7 v8 v9 v10 v11 : Option D), ds = ks.map trip ∧ (∀ k ∈ ks, k ∈ ms) ∧ 0 ≤ row ∧ row ≤ 60 ∧ 0 ≤ place ∧ place ≤ 2 * c ∧ ks.length ≤ 60 ∧ ac.length + 480 * ks.length ≤ 480 * 60 ∧ ac ++ forD dn dead row place red ks = forD dn dead 0 0 false S ∧ e = [some (machD c dead dn), some d, some (.ref ka), some (.int row), some (.int place), some (colD red), v6, v7, v8, v9, v10, v11] ∧ m' = sup m ka (.lst ac)) _ _ _ ⟨S, 0, 0, false, [], _, _, _, _, _, _, rfl, hsk, by omega, by omega, by omega, by have := hM.lo; omega, by omega, by simp; omega, rfl, rfl, rfl⟩ ?_ ?_
      · rintro q ds e m' ⟨ks, row, place, red, ac, v6, v7, v8, v9, v10, v11, e1, hks, r0, r1, p0, p1, hkl, hacl, hc, rfl, rfl⟩ P hP
        cases ks with
        | nil => cases e1
        | cons k ks =>
          obtain ⟨rfl, rfl⟩ := List.cons.inj e1
          refine ⟨trivial, ?_⟩
          have hkm := hks k List.mem_cons_self
          have hk := hok k hkm
          have sl := step_len (red := red) hM hk r0 r1 p0 p1
          simp only [List.length_cons] at hkl hacl
          refine kf_body hA (R := R) (x := x) hM hk r0 r1 p0 p1 (by omega) (hix k hkm) fun w6 w7 w8 w9 w10 => ?_
          refine hP _ _ ⟨ks, k.row, _, k.red, _, _, _, _, _, _, _, rfl, fun j hj => hks j (List.mem_cons_of_mem _ hj), hk.r0, hk.r1, ?_, ?_, by omega, by rw [List.length_append]; omega, ?_, rfl, rfl⟩
          · have := hk.p0; split <;> omega
          · have := hk.p1; split <;> omega
          · rw [← hc]; simp [forD]
      · rintro e m' ⟨ks, row, place, red, ac, v6, v7, v8, v9, v10, v11, e1, hks, r0, r1, p0, p1, hkl, hacl, hc, rfl, rfl⟩
        refine ⟨trivial, ?_⟩
        have e3 : ks = [] := by cases ks with | nil => rfl | cons a b => cases e1
        subst e3
        simp only [forD, List.append_nil] at hc
        subst hc
        simp only [psi_keys_for_t5, wTuple, asQ, asL, sup_same, s_seq, s_if, s_set, s_ret, s_retN, s_next, s_exp, s_asg, s_for, s_par, s_raise, e_test, e_not, e_and, e_or, e_andV, e_orV, e_notV, e_op, e_un, e_if, e_call, e_callB, e_cons, e_nil, e_tup, e_lst, e_nwF, e_c, e_var, e_sl, e_oSome, e_oNone, e_chain, e_lc, e_seqI, e_mt, e_frz, e_fgt, g_nm, g_tp, putAllS, putAll0, wipeS, wipe0, getS, get0, putS, put0, ok_some]
        exact ⟨m, fun a o e => by rw [sup_ne (by rintro rfl; rw [nka] at e; cases e)]; exact e, hfin⟩
end DL
end
section
set_option maxHeartbeats 0
namespace DL
open PySem
def psi__law_which (A : Ad) (k : Nat) (ea : Addr) : WS := wSeq (wSet 1 (wLst true (wCons (wCallB (wIsE ea (tabE A k)) (wCons (wVar 0) (wCons (wC (.ref A.xNoMachine)) (wNil)))) (wCons (wCallB (wIsE ea (tabE A k)) (wCons (wVar 0) (wCons (wC (.ref A.xNoKeys)) (wNil)))) (wCons (wCallB (wIsE ea (tabE A k)) (wCons (wVar 0) (wCons (wC (.ref A.xNoKey)) (wNil)))) (wCons (wCallB (wIsE ea (tabE A k)) (wCons (wVar 0) (wCons (wC (.ref A.xNoPlace)) (wNil)))) (wNil))))))) (wSeq (wExp (wMt "list" wExtend (wVar 1) (wCons (wLst false (wCons (wCallB (wIsE ea (tabE A k)) (wCons (wVar 0) (wCons (wC (.ref A.xNoGoal)) (wNil)))) (wCons (wCallB (wIsE ea (tabE A k)) (wCons (wVar 0) (wCons (wC (.ref A.xNoStrikes)) (wNil)))) (wCons (wCallB (wIsE ea (tabE A k)) (wCons (wVar 0) (wCons (wC (.ref A.xNoText)) (wNil)))) (wCons (wCallB (wIsE ea (tabE A k)) (wCons (wVar 0) (wCons (wC (.ref A.xNoNumbers)) (wNil)))) (wNil)))))) (wNil)))) (wSeq (wExp (wMt "list" wExtend (wVar 1) (wCons (wLst false (wCons (wCallB (wIsE ea (tabE A k)) (wCons (wVar 0) (wCons (wC (.ref A.xTooWide)) (wNil)))) (wCons (wCallB (wIsE ea (tabE A k)) (wCons (wVar 0) (wCons (wC (.ref A.xNothing)) (wNil)))) (wNil)))) (wNil)))) (wSeq (wIfS (wOr (wTest (wOp wNe (wMt "list" wCount (wVar 1) (wCons (wC (.bl true)) (wNil))) (wC (.int 1)))) (wNot (wTest (wCallB (wIsE ea (tabE A k)) (wCons (wVar 0) (wCons (wC (.ty "ValueError")) (wNil))))))) (wRet (wFgt (wTup (wCons (wC (.str (PySem.Str.ofString "refused"))) (wCons (wUn wNeg (wC (.int 1))) (wNil)))))) (wNext)) (wRet (wFgt (wTup (wCons (wC (.str (PySem.Str.ofString "refused"))) (wCons (wMt "list" wIndex (wVar 1) (wCons (wC (.bl true)) (wNil))) (wNil)))))))))
end DL
end
section
set_option maxHeartbeats 0
namespace DL
open PySem
theorem tab_at {A : Ad} (hA : AdOk A) {j k : Nat} {a : Addr} (h : A.cls[j]? = some a) : tabE A k (.ref a) = some (decide (k = j)) := by
  have hm : a ∈ A.cls := List.mem_of_getElem? h
  simp only [tabE, if_pos hm]
  congr 1
  by_cases e : k = j
  · subst e; simp [h]
  · have : A.cls[k]? ≠ some a := fun z => by
      have hl : k < A.cls.length := by
        rcases Nat.lt_or_ge k A.cls.length with y | y
        · exact y
        · rw [List.getElem?_eq_none y] at z; cases z
      exact e ((List.getElem?_inj hl hA.nd).mp (by rw [z, h]))
    simp [e, this]
theorem dt__law_which {A : Ad} (hA : AdOk A) {i : Nat} (hi : i < 10) : ∀ a m R, R (refD i) m → psi__law_which A i a (startD 2 [.ref a]) m (endD R (fun _ _ => False)) := by
  intro a m R h
  have L : LIM = 16777216 := rfl
  have t0 : tabE A i (.ref A.xNoMachine) = some (decide (i = 0)) := tab_at hA rfl
  have t1 : tabE A i (.ref A.xNoKeys) = some (decide (i = 1)) := tab_at hA rfl
  have t2 : tabE A i (.ref A.xNoKey) = some (decide (i = 2)) := tab_at hA rfl
  have t3 : tabE A i (.ref A.xNoPlace) = some (decide (i = 3)) := tab_at hA rfl
  have t4 : tabE A i (.ref A.xNoGoal) = some (decide (i = 4)) := tab_at hA rfl
  have t5 : tabE A i (.ref A.xNoStrikes) = some (decide (i = 5)) := tab_at hA rfl
  have t6 : tabE A i (.ref A.xNoText) = some (decide (i = 6)) := tab_at hA rfl
  have t7 : tabE A i (.ref A.xNoNumbers) = some (decide (i = 7)) := tab_at hA rfl
  have t8 : tabE A i (.ref A.xTooWide) = some (decide (i = 8)) := tab_at hA rfl
  have t9 : tabE A i (.ref A.xNothing) = some (decide (i = 9)) := tab_at hA rfl
  have tv : tabE A i (.ty "ValueError") = some true := by simp [tabE]
  simp [psi__law_which, wIsE, t0, t1, t2, t3, tyM]
  refine ⟨by decide, fun o no => ?_⟩
  simp [sup_same, wExtend, asL, sup_sup, t4, t5, t6, t7, t8, t9]
  refine ⟨by decide, by decide, by decide, by decide, ?_⟩
  simp only [wCount, asL, sup_same]
  refine ⟨_, rfl, rfl, by simp [flatD], ?_⟩
  have hc : (List.countP (fun z => eqD z (.bl true)) [D.bl (decide (i = 0)), .bl (decide (i = 1)), .bl (decide (i = 2)), .bl (decide (i = 3)), .bl (decide (i = 4)), .bl (decide (i = 5)), .bl (decide (i = 6)), .bl (decide (i = 7)), .bl (decide (i = 8)), .bl (decide (i = 9))]) = 1 := by
    have : i = 0 ∨ i = 1 ∨ i = 2 ∨ i = 3 ∨ i = 4 ∨ i = 5 ∨ i = 6 ∨ i = 7 ∨ i = 8 ∨ i = 9 := by omega
    rcases this with e | e | e | e | e | e | e | e | e | e <;> subst e <;> rfl
  rw [hc]
  simp [wNe, wEq, wIsE, tv, sup_same]
  refine ⟨[D.bl (decide (i = 0)), .bl (decide (i = 1)), .bl (decide (i = 2)), .bl (decide (i = 3)), .bl (decide (i = 4)), .bl (decide (i = 5)), .bl (decide (i = 6)), .bl (decide (i = 7)), .bl (decide (i = 8)), .bl (decide (i = 9))], i, .bl true, by simp [asL, sup_same], rfl, by simp [flatD], ?_, rfl, ?_, by decide, m, Sub.new no, h⟩
  · have : i = 0 ∨ i = 1 ∨ i = 2 ∨ i = 3 ∨ i = 4 ∨ i = 5 ∨ i = 6 ∨ i = 7 ∨ i = 8 ∨ i = 9 := by omega
    rcases this with e | e | e | e | e | e | e | e | e | e <;> subst e <;> rfl
  · intro k z hk hz
    have : i = 0 ∨ i = 1 ∨ i = 2 ∨ i = 3 ∨ i = 4 ∨ i = 5 ∨ i = 6 ∨ i = 7 ∨ i = 8 ∨ i = 9 := by omega
    have hk' : k = 0 ∨ k = 1 ∨ k = 2 ∨ k = 3 ∨ k = 4 ∨ k = 5 ∨ k = 6 ∨ k = 7 ∨ k = 8 := by omega
    rcases hk' with e2 | e2 | e2 | e2 | e2 | e2 | e2 | e2 | e2 <;> subst e2 <;> simp at hz <;> subst hz <;> simp [eqD] <;> omega
end DL
end
section
set_option maxHeartbeats 0
namespace DL
open PySem
def onK (n : Int) : List Ky := List.replicate (n / 2).toNat .blank ++ List.replicate (n % 2).toNat .half
def keyK (c : Nat) : List Ky := if c = 32 then [.blank] else if 65 ≤ c ∧ c ≤ 90 then [.caps, .sign (c + 32), .caps] else [.sign c]
def keysK (cs : List Nat) : List Ky := cs.flatMap keyK
def marK (l r : Int) : List Ky := onK r ++ [.right, .ret] ++ (onK l ++ [.left])
theorem onK_D (n : Int) : (onK n).map kyD = onD n := by simp [onK, onD, kyD, kyW]
theorem keyK_D (c : Nat) : (keyK c).map kyD = keyOf c := by
  unfold keyK keyOf
  split
  · simp [kyD, kyW]
  · split <;> simp [kyD, kyW, kS]
theorem keysK_D (cs : List Nat) : (keysK cs).map kyD = keysOf cs := by
  induction cs with
  | nil => rfl
  | cons c cs ih =>
    have : keysK (c :: cs) = keyK c ++ keysK cs := by simp [keysK]
    rw [this, List.map_append, keyK_D, ih]; simp [keysOf]
theorem marK_D (l r : Int) : (marK l r).map kyD = marD l r := by simp [marK, marD, onK_D, kyD, kyW]
theorem onK_ok (n : Int) : ∀ k ∈ onK n, kyOk k := by
  intro k hk
  rcases List.mem_append.mp hk with h | h <;> (rw [List.mem_replicate] at h; rw [h.2]; trivial)
theorem keyK_ok (c : Nat) (hc : c < 128) : ∀ k ∈ keyK c, kyOk k := by
  intro k hk
  unfold keyK at hk
  split at hk
  · simp at hk; subst hk; trivial
  · split at hk
    · simp at hk; rcases hk with e | e | e <;> subst e <;> first | trivial | (show _ + 32 < 128; omega)
    · simp at hk; subst hk; exact hc
theorem keysK_ok (cs : List Nat) (h : ∀ c ∈ cs, c < 128) : ∀ k ∈ keysK cs, kyOk k := by
  intro k hk
  obtain ⟨c, hc, hk⟩ := List.mem_flatMap.mp hk
  exact keyK_ok c (h c hc) k hk
theorem runL_app : ∀ (a b : List Ky) (s : LW), runL s (a ++ b) = ((runL (runL s a).1 b).1, (runL s a).2 ++ (runL (runL s a).1 b).2) := by
  intro a
  induction a with
  | nil => intro b s; simp [runL]
  | cons k a ih => intro b s; simp [runL, ih]
def Good (d : D) : Prop := dOk d 59 = true ∧ eqD d lockD = false
theorem good_moved (r p : Int) : Good (movedD r p) := ⟨by simp [movedD, dOk, dOks, wordD]; decide +kernel, by simp [movedD, lockD, eqD, eqDs, wordD]⟩
theorem good_done : Good doneD := ⟨by simp [doneD, dOk, dOks, wordD]; decide +kernel, by simp [doneD, lockD, eqD, eqDs, wordD]⟩
theorem good_struck (k : Mk) (h : k.sign < 128) : Good (strikeD "struck" k) := by
  refine ⟨?_, by simp [strikeD, lockD, eqD, eqDs, wordD]⟩
  have a1 := ok_word "struck" 58 (by decide +kernel)
  have a2 := ok_ch k.sign 58 h
  have a3 := ok_col k.red 58
  simp only [strikeD]
  rw [dOk, dOks, dOks, dOks, dOks, dOks, dOks, a1, a2, a3]
  rfl
structure At (s : LW) (c : Int) (dead : List Nat) (dn row place low high : Int) (caps : Bool) : Prop where
  c : s.c = c
  dead : s.dead = dead
  dn : s.dn = dn
  row : s.row = row
  place : s.place = place
  low : s.low = low
  high : s.high = high
  caps : s.caps = caps
  free : s.free = false
section
variable {s : LW} {c : Int} {dead : List Nat} {dn row p lo hi : Int} {cp : Bool}
structure Run (s : LW) (ks : List Ky) (c : Int) (dead : List Nat) (dn row place low high : Int) (caps : Bool) : Prop where
  at_ : At (runL s ks).1 c dead dn row place low high caps
  good : ∀ d ∈ (runL s ks).2, Good d
theorem Run.one {k : Ky} (h : At (pressL s k).1 c dead dn row p lo hi cp) (g : Good (pressL s k).2) : Run s [k] c dead dn row p lo hi cp := ⟨h, by simpa [runL] using g⟩
theorem Run.app {a b : List Ky} {c' : Int} {dead' : List Nat} {dn' row' p' lo' hi' : Int} {cp' : Bool} (h : Run s a c dead dn row p lo hi cp) (h' : At (runL s a).1 c dead dn row p lo hi cp → Run (runL s a).1 b c' dead' dn' row' p' lo' hi' cp') : Run s (a ++ b) c' dead' dn' row' p' lo' hi' cp' := by
  have h2 := h' h.at_
  refine ⟨by rw [runL_app]; exact h2.at_, fun d hd => ?_⟩
  rw [runL_app] at hd
  rcases List.mem_append.mp hd with e | e
  · exact h.good d e
  · exact h2.good d e
theorem on_at {q : Int} (h : At s c dead dn row p lo hi cp) (h1 : q ≤ hi) (h2 : hi ≤ 2 * c) : At (onL s q).1 c dead dn row q lo hi cp ∧ Good (onL s q).2 := by
  have e : shutL s q = false := by
    simp only [shutL, h.c, h.high, h.free]
    simp; omega
  unfold onL
  rw [if_neg (by rw [e]; decide)]
  exact ⟨⟨h.c, h.dead, h.dn, h.row, rfl, h.low, h.high, h.caps, h.free⟩, good_moved _ _⟩
theorem At.many {s : LW} (h : At s c dead dn row p lo hi cp) {n : Int} : At { s with many := n } c dead dn row p lo hi cp := ⟨h.c, h.dead, h.dn, h.row, h.place, h.low, h.high, h.caps, h.free⟩
theorem run_blank (h : At s c dead dn row p lo hi cp) (h1 : p + 2 ≤ hi) (h2 : hi ≤ 2 * c) : Run s [.blank] c dead dn row (p + 2) lo hi cp := by
  have e := on_at (q := p + 2) h h1 h2
  have e1 : actL s .blank = onL s (p + 2) := by show onL s (s.place + 2) = _; rw [h.place]
  refine .one ?_ ?_
  · show At { (actL s .blank).1 with many := _ } _ _ _ _ _ _ _ _; rw [e1]; exact e.1.many
  · show Good (actL s .blank).2; rw [e1]; exact e.2
theorem run_half (h : At s c dead dn row p lo hi cp) (h1 : p + 1 ≤ hi) (h2 : hi ≤ 2 * c) : Run s [.half] c dead dn row (p + 1) lo hi cp := by
  have e := on_at (q := p + 1) h h1 h2
  have e1 : actL s .half = onL s (p + 1) := by show onL s (s.place + 1) = _; rw [h.place]
  refine .one ?_ ?_
  · show At { (actL s .half).1 with many := _ } _ _ _ _ _ _ _ _; rw [e1]; exact e.1.many
  · show Good (actL s .half).2; rw [e1]; exact e.2
theorem run_nil (h : At s c dead dn row p lo hi cp) : Run s [] c dead dn row p lo hi cp := ⟨h, by simp [runL]⟩
theorem run_blanks : ∀ (n : Nat) {s : LW} {p : Int}, At s c dead dn row p lo hi cp → p + 2 * n ≤ hi → hi ≤ 2 * c → Run s (List.replicate n .blank) c dead dn row (p + 2 * n) lo hi cp
  | 0, s, p, h, _, _ => by simpa using run_nil h
  | n + 1, s, p, h, h1, h2 => by
    have h3 := (run_blank h (by omega) h2).app (b := List.replicate n .blank) fun a => run_blanks n a (by omega) h2
    have e : p + 2 + 2 * (n : Int) = p + 2 * ((n + 1 : Nat) : Int) := by omega
    rw [e] at h3
    simpa [List.replicate_succ] using h3
theorem run_on {n : Int} (h : At s c dead dn row p lo hi cp) (h0 : 0 ≤ n) (h1 : p + n ≤ hi) (h2 : hi ≤ 2 * c) : Run s (onK n) c dead dn row (p + n) lo hi cp := by
  unfold onK
  refine (run_blanks (n / 2).toNat h (by omega) h2).app fun a => ?_
  have : n % 2 = 0 ∨ n % 2 = 1 := by omega
  rcases this with e | e
  · rw [e]
    have e2 : p + 2 * ((n / 2).toNat : Int) = p + n := by omega
    rw [e2] at a
    exact run_nil a
  · rw [e]
    have h3 := run_half a (by omega) h2
    have e2 : p + 2 * ((n / 2).toNat : Int) + 1 = p + n := by omega
    rw [e2] at h3
    exact h3
theorem run_caps (h : At s c dead dn row p lo hi cp) : Run s [.caps] c dead dn row p lo hi (!cp) :=
  .one ⟨h.c, h.dead, h.dn, h.row, h.place, h.low, h.high, by show (!s.caps) = !cp; rw [h.caps], h.free⟩ good_done
theorem run_sign {k : Nat} (hk : k < 128) (hd : k ∉ dead) (h : At s c dead dn row p lo hi cp) (h1 : p + 2 ≤ hi) (h2 : hi ≤ 2 * c) : Run s [.sign k] c dead dn row (p + 2) lo hi cp := by
  have e : shutL s (s.place + 2) = false := by
    simp only [shutL, h.c, h.high, h.free, h.place]
    simp; omega
  have e1 : actL s (.sign k) = (goL { s with marks := s.marks ++ [⟨s.many, s.row, s.place, asL1 s k, s.red⟩] } (s.place + 2), strikeD "struck" ⟨s.many, s.row, s.place, asL1 s k, s.red⟩) := by
    show inkL s true k = _
    unfold inkL
    rw [if_neg (by rw [e]; decide)]
    simp [inkM, h.dead, hd]
  refine .one ?_ ?_
  · show At { (actL s (.sign k)).1 with many := _ } _ _ _ _ _ _ _ _
    rw [e1]
    exact ⟨h.c, h.dead, h.dn, h.row, by show s.place + 2 = p + 2; rw [h.place], h.low, h.high, h.caps, h.free⟩
  · show Good (actL s (.sign k)).2; rw [e1]; exact good_struck _ (asL1_lt hk)
theorem run_key {k : Nat} (hk : k < 128) (hd : k ∉ dead) (hd2 : ∀ d ∈ dead, ¬ (97 ≤ d ∧ d ≤ 122)) (h : At s c dead dn row p lo hi cp) (h1 : p + 2 ≤ hi) (h2 : hi ≤ 2 * c) : Run s (keyK k) c dead dn row (p + 2) lo hi cp := by
  unfold keyK
  split
  · exact run_blank h h1 h2
  · split
    · rename_i hc
      have h3 := ((run_caps h).app (b := [.sign (k + 32)]) fun a => run_sign (by omega) (fun z => hd2 _ z (by omega)) a h1 h2).app (b := [.caps]) fun a => run_caps a
      simpa using h3
    · exact run_sign hk hd h h1 h2
theorem run_keys : ∀ (cs : List Nat) {s : LW} {p : Int}, (∀ k ∈ cs, k < 128 ∧ k ∉ dead) → (∀ d ∈ dead, ¬ (97 ≤ d ∧ d ≤ 122)) → At s c dead dn row p lo hi cp → p + 2 * cs.length ≤ hi → hi ≤ 2 * c → Run s (keysK cs) c dead dn row (p + 2 * cs.length) lo hi cp
  | [], s, p, _, _, h, _, _ => by simpa [keysK] using run_nil h
  | k :: cs, s, p, hk, hd, h, h1, h2 => by
    have e : keysK (k :: cs) = keyK k ++ keysK cs := by simp [keysK]
    rw [e]
    simp only [List.length_cons] at h1
    have h3 := (run_key (hk k List.mem_cons_self).1 (hk k List.mem_cons_self).2 hd h (by omega) h2).app (b := keysK cs) fun a => run_keys cs (fun z hz => hk z (List.mem_cons_of_mem _ hz)) hd a (by omega) h2
    have e2 : p + 2 + 2 * (cs.length : Int) = p + 2 * ((k :: cs).length : Int) := by simp; omega
    rw [e2] at h3
    exact h3
theorem new_at (hM : MOk c dead dn) (tabs : List Int) : At (newL c dead dn tabs) c dead dn 0 0 0 (2 * c) false := ⟨rfl, rfl, rfl, rfl, rfl, rfl, rfl, rfl, rfl⟩
theorem run_right (h : At s c dead dn row p lo hi cp) (h1 : lo < p) : Run s [.right] c dead dn row p lo p cp := by
  have e : actL s .right = ({ s with high := s.place }, doneD) := by
    show turnL s .right = _
    simp only [turnL]; rw [if_pos (by rw [h.low, h.place]; exact h1)]
  refine .one ?_ ?_
  · show At { (actL s .right).1 with many := _ } _ _ _ _ _ _ _ _
    rw [e]
    exact ⟨h.c, h.dead, h.dn, h.row, h.place, h.low, h.place, h.caps, h.free⟩
  · show Good (actL s .right).2; rw [e]; exact good_done
theorem run_left (h : At s c dead dn row p lo hi cp) (h1 : p < hi) : Run s [.left] c dead dn row p p hi cp := by
  have e : actL s .left = ({ s with low := s.place }, doneD) := by
    show turnL s .left = _
    simp only [turnL]; rw [if_pos (by rw [h.high, h.place]; exact h1)]
  refine .one ?_ ?_
  · show At { (actL s .left).1 with many := _ } _ _ _ _ _ _ _ _
    rw [e]
    exact ⟨h.c, h.dead, h.dn, h.row, h.place, h.place, h.high, h.caps, h.free⟩
  · show Good (actL s .left).2; rw [e]; exact good_done
theorem run_ret (h : At s c dead dn row p lo hi cp) (h0 : 0 ≤ row + dn) (h1 : row + dn ≤ 60) : Run s [.ret] c dead dn (row + dn) lo lo hi cp := by
  have e : actL s .ret = ({ s with row := row + dn, place := s.low, free := false }, movedD (row + dn) s.low) := by
    show rowL s (s.row + s.dn) true = _
    unfold rowL
    rw [h.row, h.dn, if_neg (by omega)]
    simp
  refine .one ?_ ?_
  · show At { (actL s .ret).1 with many := _ } _ _ _ _ _ _ _ _
    rw [e]
    exact ⟨h.c, h.dead, h.dn, rfl, h.low, h.low, h.high, h.caps, rfl⟩
  · show Good (actL s .ret).2; rw [e]; exact good_moved _ _
theorem run_margins (hM : MOk c dead dn) {l r : Int} (h0 : 0 ≤ l) (h1 : l < r) (h2 : r ≤ 2 * c) (tabs : List Int) : Run (newL c dead dn tabs) (marK l r) c dead dn dn l l r false := by
  unfold marK
  have a0 := new_at hM tabs
  have d2 := hM.d2
  have d4 := hM.d4
  generalize newL c dead dn tabs = s at a0 ⊢
  have s1 := run_on (n := r) a0 (by omega) (by omega) (by omega)
  simp only [Int.zero_add] at s1
  have s2 := s1.app fun a => run_right a (by omega)
  have s3 := s2.app fun a => run_ret a (by omega) (by omega)
  simp only [Int.zero_add] at s3
  have s4 := s3.app (b := onK l) fun a => run_on (n := l) a h0 (by omega) (by omega)
  simp only [Int.zero_add] at s4
  have s5 := s4.app fun a => run_left a (by omega)
  have e : onK r ++ [Ky.right, .ret] ++ (onK l ++ [.left]) = onK r ++ [.right] ++ [.ret] ++ onK l ++ [.left] := by simp
  rw [e]
  exact s5
end
end DL
end
section
set_option maxHeartbeats 0
namespace DL
open PySem
def core (s : LW) : LW := { s with rings := [] }
theorem core_core (s : LW) : core (core s) = core s := rfl
theorem core_press (s : LW) (k : Ky) : core (pressL s k).1 = core (pressL (core s) k).1 ∧ (pressL s k).2 = (pressL (core s) k).2 := by
  have ink : ∀ b c, core { (inkL s b c).1 with many := (inkL s b c).1.many + 1 } = core { (inkL (core s) b c).1 with many := (inkL (core s) b c).1.many + 1 } ∧ (inkL s b c).2 = (inkL (core s) b c).2 := fun b c => by
    unfold inkL
    have e : shutL (core s) ((core s).place + 2) = shutL s (s.place + 2) := rfl
    have e2 : inkM (core s) b c = inkM s b c := rfl
    have e3 : (core s).dead = s.dead := rfl
    rw [e, e2, e3]
    by_cases h : shutL s (s.place + 2) = true
    · rw [if_pos h, if_pos h]; exact ⟨rfl, rfl⟩
    · rw [if_neg h, if_neg h]
      by_cases hd : c ∈ s.dead
      · simp only [if_pos hd]; exact ⟨rfl, trivial⟩
      · simp only [if_neg hd]; exact ⟨rfl, trivial⟩
  have on : ∀ q, core { (onL s q).1 with many := (onL s q).1.many + 1 } = core { (onL (core s) q).1 with many := (onL (core s) q).1.many + 1 } ∧ (onL s q).2 = (onL (core s) q).2 := fun q => by
    unfold onL
    have e : shutL (core s) q = shutL s q := rfl
    rw [e]
    by_cases h : shutL s q = true
    · rw [if_pos h, if_pos h]; exact ⟨rfl, rfl⟩
    · rw [if_neg h, if_neg h]; exact ⟨rfl, rfl⟩
  have row : ∀ q b, core { (rowL s q b).1 with many := (rowL s q b).1.many + 1 } = core { (rowL (core s) q b).1 with many := (rowL (core s) q b).1.many + 1 } ∧ (rowL s q b).2 = (rowL (core s) q b).2 := fun q b => by
    unfold rowL
    by_cases h : q < 0 ∨ 60 < q
    · rw [if_pos h, if_pos h]; exact ⟨rfl, rfl⟩
    · rw [if_neg h, if_neg h]; cases b <;> exact ⟨rfl, rfl⟩
  cases k with
  | sign c => exact ink true c
  | lift c => exact ink false c
  | blank => exact on _
  | half => exact on _
  | tab => exact on _
  | ret => exact row _ _
  | up => exact row _ _
  | down => exact row _ _
  | back =>
    by_cases h : s.place < 2 ∨ (s.free = false ∧ s.low ≤ s.place ∧ s.place - 2 < s.low)
    · have e1 : actL s .back = (s, lockD) := if_pos h
      have e2 : actL (core s) .back = (core s, lockD) := if_pos h
      unfold pressL; rw [e1, e2]; exact ⟨rfl, rfl⟩
    · have e1 : actL s .back = ({ s with place := s.place - 2 }, movedD s.row (s.place - 2)) := if_neg h
      have e2 : actL (core s) .back = ({ core s with place := s.place - 2 }, movedD s.row (s.place - 2)) := if_neg h
      unfold pressL; rw [e1, e2]; exact ⟨rfl, rfl⟩
  | left =>
    by_cases h : s.place < s.high
    · have e1 : actL s .left = ({ s with low := s.place }, doneD) := if_pos h
      have e2 : actL (core s) .left = ({ core s with low := s.place }, doneD) := if_pos h
      unfold pressL; rw [e1, e2]; exact ⟨rfl, rfl⟩
    · have e1 : actL s .left = (s, lockD) := if_neg h
      have e2 : actL (core s) .left = (core s, lockD) := if_neg h
      unfold pressL; rw [e1, e2]; exact ⟨rfl, rfl⟩
  | right =>
    by_cases h : s.low < s.place
    · have e1 : actL s .right = ({ s with high := s.place }, doneD) := if_pos h
      have e2 : actL (core s) .right = ({ core s with high := s.place }, doneD) := if_pos h
      unfold pressL; rw [e1, e2]; exact ⟨rfl, rfl⟩
    · have e1 : actL s .right = (s, lockD) := if_neg h
      have e2 : actL (core s) .right = (core s, lockD) := if_neg h
      unfold pressL; rw [e1, e2]; exact ⟨rfl, rfl⟩
  | clear =>
    by_cases h : s.place ∈ s.tabs
    · have e1 : actL s .clear = ({ s with tabs := s.tabs.filter (fun t => decide (t ≠ s.place)) }, doneD) := if_pos h
      have e2 : actL (core s) .clear = ({ core s with tabs := s.tabs.filter (fun t => decide (t ≠ s.place)) }, doneD) := if_pos h
      unfold pressL; rw [e1, e2]; exact ⟨rfl, rfl⟩
    · have e1 : actL s .clear = (s, lockD) := if_neg h
      have e2 : actL (core s) .clear = (core s, lockD) := if_neg h
      unfold pressL; rw [e1, e2]; exact ⟨rfl, rfl⟩
  | set => exact ⟨rfl, rfl⟩
  | all => exact ⟨rfl, rfl⟩
  | free => exact ⟨rfl, rfl⟩
  | ribbon => exact ⟨rfl, rfl⟩
  | caps => exact ⟨rfl, rfl⟩
theorem core_press_eq {s t : LW} (h : core s = core t) (k : Ky) : core (pressL s k).1 = core (pressL t k).1 ∧ (pressL s k).2 = (pressL t k).2 := by
  have h1 := core_press s k
  have h2 := core_press t k
  rw [h] at h1
  exact ⟨h1.1.trans h2.1.symm, h1.2.trans h2.2.symm⟩
theorem core_run_eq : ∀ (ks : List Ky) {s t : LW}, core s = core t → core (runL s ks).1 = core (runL t ks).1 ∧ (runL s ks).2 = (runL t ks).2
  | [], _, _, h => ⟨h, rfl⟩
  | k :: ks, s, t, h => by
    have h1 := core_press_eq h k
    have h2 := core_run_eq ks h1.1
    exact ⟨h2.1, by show _ :: _ = _ :: _; rw [h1.2, h2.2]⟩
structure RunC (s : LW) (ks : List Ky) (t : LW) : Prop where
  at_ : core (runL s ks).1 = core t
  good : ∀ d ∈ (runL s ks).2, Good d
theorem RunC.nil {s t : LW} (h : core s = core t) : RunC s [] t := ⟨h, by simp [runL]⟩
theorem RunC.one {s t : LW} {k : Ky} (h : core (pressL s k).1 = core t) (g : Good (pressL s k).2) : RunC s [k] t := ⟨h, by simpa [runL] using g⟩
theorem RunC.app {s t u : LW} {a b : List Ky} (h : RunC s a t) (h' : RunC t b u) : RunC s (a ++ b) u := by
  have e := core_run_eq b h.at_
  refine ⟨by rw [runL_app]; exact e.1.trans h'.at_, fun d hd => ?_⟩
  rw [runL_app] at hd
  rcases List.mem_append.mp hd with z | z
  · exact h.good d z
  · rw [e.2] at z; exact h'.good d z
theorem RunC.to {s t u : LW} {a : List Ky} (h : RunC s a t) (e : core t = core u) : RunC s a u := ⟨h.at_.trans e, h.good⟩
section
variable {s : LW}
theorem rc_on {k : Ky} {q : Int} (hk : actL s k = onL s q) (h0 : s.free = true ∨ q ≤ s.high) (h1 : q ≤ 2 * s.c) : RunC s [k] { s with place := q, many := s.many + 1 } := by
  have e : shutL s q = false := by
    unfold shutL
    rcases h0 with h | h
    · simp [h]; omega
    · simp; omega
  have e1 : actL s k = (goL s q, movedD s.row q) := by rw [hk]; unfold onL; rw [if_neg (by rw [e]; decide)]
  refine .one ?_ ?_
  · show core { (actL s k).1 with many := (actL s k).1.many + 1 } = _
    rw [e1]; rfl
  · show Good (actL s k).2
    rw [e1]; exact good_moved _ _
theorem rc_blank (h0 : s.free = true ∨ s.place + 2 ≤ s.high) (h1 : s.place + 2 ≤ 2 * s.c) : RunC s [.blank] { s with place := s.place + 2, many := s.many + 1 } := rc_on rfl h0 h1
theorem rc_half (h0 : s.free = true ∨ s.place + 1 ≤ s.high) (h1 : s.place + 1 ≤ 2 * s.c) : RunC s [.half] { s with place := s.place + 1, many := s.many + 1 } := rc_on rfl h0 h1
theorem rc_tab {q : Int} (hq : tabL s = q) (h0 : s.free = true ∨ q ≤ s.high) (h1 : q ≤ 2 * s.c) : RunC s [.tab] { s with place := q, many := s.many + 1 } := rc_on (by rw [← hq]; rfl) h0 h1
theorem rc_back (h0 : 2 ≤ s.place) (h1 : s.free = true ∨ s.low ≤ s.place - 2 ∨ s.place < s.low) : RunC s [.back] { s with place := s.place - 2, many := s.many + 1 } := by
  have e1 : actL s .back = ({ s with place := s.place - 2 }, movedD s.row (s.place - 2)) := by
    show stepL1 s .back = _
    simp only [stepL1]
    rw [if_neg]
    rintro (z | ⟨z1, z2, z3⟩)
    · omega
    · rcases h1 with h | h | h
      · rw [h] at z1; cases z1
      · omega
      · omega
  refine .one ?_ ?_
  · show core { (actL s .back).1 with many := (actL s .back).1.many + 1 } = _
    rw [e1]
  · show Good (actL s .back).2
    rw [e1]; exact good_moved _ _
theorem rc_caps : RunC s [.caps] { s with caps := !s.caps, many := s.many + 1 } := .one rfl good_done
theorem rc_ribbon : RunC s [.ribbon] { s with red := !s.red, many := s.many + 1 } := .one rfl good_done
theorem rc_free : RunC s [.free] { s with free := true, many := s.many + 1 } := .one rfl good_done
theorem rc_sign {k : Nat} (hk : k < 128) (h0 : s.free = true ∨ s.place + 2 ≤ s.high) (h1 : s.place + 2 ≤ 2 * s.c) : RunC s [.sign k] { s with place := (if k ∈ s.dead then s.place else s.place + 2), marks := s.marks ++ [⟨s.many, s.row, s.place, asL1 s k, s.red⟩], many := s.many + 1 } := by
  have e : shutL s (s.place + 2) = false := by
    unfold shutL
    rcases h0 with h | h
    · simp [h]; omega
    · simp; omega
  have e1 : actL s (.sign k) = (if k ∈ s.dead then { s with marks := s.marks ++ [⟨s.many, s.row, s.place, asL1 s k, s.red⟩] } else goL { s with marks := s.marks ++ [⟨s.many, s.row, s.place, asL1 s k, s.red⟩] } (s.place + 2), strikeD "struck" ⟨s.many, s.row, s.place, asL1 s k, s.red⟩) := by
    show inkL s true k = _
    unfold inkL
    rw [if_neg (by rw [e]; decide)]
    simp [inkM]
  refine .one ?_ ?_
  · show core { (actL s (.sign k)).1 with many := (actL s (.sign k)).1.many + 1 } = _
    rw [e1]
    by_cases hd : k ∈ s.dead
    · simp only [hd, if_true]
    · simp only [hd, if_false]; rfl
  · show Good (actL s (.sign k)).2
    rw [e1]; exact good_struck _ (asL1_lt hk)
theorem rc_row {k : Ky} {r : Int} {b : Bool} (hk : actL s k = rowL s r b) (h0 : 0 ≤ r) (h1 : r ≤ 60) : RunC s [k] (if b then { s with row := r, place := s.low, free := false, many := s.many + 1 } else { s with row := r, many := s.many + 1 }) := by
  have e1 : actL s k = if b then ({ s with row := r, place := s.low, free := false }, movedD r s.low) else ({ s with row := r }, movedD r s.place) := by
    rw [hk]; unfold rowL; rw [if_neg (by omega)]
  refine .one ?_ ?_
  · show core { (actL s k).1 with many := (actL s k).1.many + 1 } = _
    rw [e1]; cases b <;> rfl
  · show Good (actL s k).2
    rw [e1]; cases b <;> exact good_moved _ _
theorem rc_ret (h0 : 0 ≤ s.row + s.dn) (h1 : s.row + s.dn ≤ 60) : RunC s [.ret] { s with row := s.row + s.dn, place := s.low, free := false, many := s.many + 1 } := by
  simpa using rc_row (s := s) (k := .ret) (b := true) rfl h0 h1
theorem rc_up (h0 : 1 ≤ s.row) (h1 : s.row ≤ 61) : RunC s [.up] { s with row := s.row - 1, many := s.many + 1 } := by
  simpa using rc_row (s := s) (k := .up) (r := s.row - 1) (b := false) rfl (by omega) (by omega)
theorem rc_down (h0 : -1 ≤ s.row) (h1 : s.row ≤ 59) : RunC s [.down] { s with row := s.row + 1, many := s.many + 1 } := by
  simpa using rc_row (s := s) (k := .down) (r := s.row + 1) (b := false) rfl (by omega) (by omega)
end
theorem rc_backs : ∀ (n : Nat) {s : LW}, 2 * (n : Int) ≤ s.place → s.low = 0 → RunC s (List.replicate n .back) { s with place := s.place - 2 * n, many := s.many + n }
  | 0, s, _, _ => by simpa using RunC.nil (s := s) rfl
  | n + 1, s, h, hl => by
    have a := rc_back (s := s) (by omega) (.inr (.inl (by omega)))
    have b := rc_backs n (s := { s with place := s.place - 2, many := s.many + 1 }) (by show 2 * (n : Int) ≤ s.place - 2; omega) hl
    have := a.app b
    rw [show List.replicate (n + 1) Ky.back = [Ky.back] ++ List.replicate n Ky.back from rfl]
    refine this.to ?_
    have e1 : s.place - 2 - 2 * (n : Int) = s.place - 2 * ((n + 1 : Nat) : Int) := by omega
    have e2 : s.many + 1 + (n : Int) = s.many + ((n + 1 : Nat) : Int) := by omega
    simp only [core, e1, e2]
def sgM (n row place : Int) (red : Bool) : List Nat → List Mk
  | [] => []
  | c :: cs => ⟨n, row, place, c, red⟩ :: sgM (n + 1) row (place + 2) red cs
theorem rc_signs : ∀ (cs : List Nat) {s : LW}, (∀ c ∈ cs, c < 128 ∧ c ∉ s.dead) → s.caps = false → s.free = false → s.place + 2 * (cs.length : Int) ≤ s.high → s.high ≤ 2 * s.c →
    RunC s (cs.map .sign) { s with place := s.place + 2 * (cs.length : Int), marks := s.marks ++ sgM s.many s.row s.place s.red cs, many := s.many + (cs.length : Int) }
  | [], s, _, _, _, _, _ => by simpa [sgM] using RunC.nil (s := s) rfl
  | k :: cs, s, hk, hc, hf, h1, h2 => by
    simp only [List.length_cons] at h1
    have hk0 := hk k List.mem_cons_self
    have a := rc_sign (s := s) hk0.1 (.inr (by omega)) (by omega)
    rw [if_neg hk0.2] at a
    have ea : asL1 s k = k := by unfold asL1; rw [hc]; rfl
    rw [ea] at a
    have b := rc_signs cs (s := { s with place := s.place + 2, marks := s.marks ++ [⟨s.many, s.row, s.place, k, s.red⟩], many := s.many + 1 }) (fun c hc => hk c (List.mem_cons_of_mem _ hc)) hc hf (by show s.place + 2 + 2 * (cs.length : Int) ≤ s.high; omega) h2
    refine (a.app b).to ?_
    have e1 : s.place + 2 + 2 * (cs.length : Int) = s.place + 2 * (((cs.length + 1 : Nat)) : Int) := by omega
    have e2 : s.many + 1 + (cs.length : Int) = s.many + ((cs.length + 1 : Nat) : Int) := by omega
    simp only [core, e1, e2, List.length_cons, sgM, List.append_assoc, List.cons_append, List.nil_append]
end DL
end
section
set_option maxHeartbeats 0
namespace DL
open PySem
section
variable {s : LW}
theorem rc_right (h : s.low < s.place) : RunC s [.right] { s with high := s.place, many := s.many + 1 } := by
  have e : actL s .right = ({ s with high := s.place }, doneD) := by
    show turnL s .right = _
    simp only [turnL]; rw [if_pos h]
  refine .one ?_ ?_
  · show core { (actL s .right).1 with many := (actL s .right).1.many + 1 } = _
    rw [e]
  · show Good (actL s .right).2; rw [e]; exact good_done
theorem rc_left (h : s.place < s.high) : RunC s [.left] { s with low := s.place, many := s.many + 1 } := by
  have e : actL s .left = ({ s with low := s.place }, doneD) := by
    show turnL s .left = _
    simp only [turnL]; rw [if_pos h]
  refine .one ?_ ?_
  · show core { (actL s .left).1 with many := (actL s .left).1.many + 1 } = _
    rw [e]
  · show Good (actL s .left).2; rw [e]; exact good_done
end
theorem rc_blanks : ∀ (n : Nat) {s : LW}, s.place + 2 * (n : Int) ≤ s.high → s.high ≤ 2 * s.c → RunC s (List.replicate n .blank) { s with place := s.place + 2 * n, many := s.many + n }
  | 0, s, _, _ => by simpa using RunC.nil (s := s) rfl
  | n + 1, s, h, hc => by
    have a := rc_blank (s := s) (.inr (by omega)) (by omega)
    have b := rc_blanks n (s := { s with place := s.place + 2, many := s.many + 1 }) (by show s.place + 2 + 2 * (n : Int) ≤ s.high; omega) hc
    rw [show List.replicate (n + 1) Ky.blank = [Ky.blank] ++ List.replicate n Ky.blank from rfl]
    refine (a.app b).to ?_
    have e1 : s.place + 2 + 2 * (n : Int) = s.place + 2 * ((n + 1 : Nat) : Int) := by omega
    have e2 : s.many + 1 + (n : Int) = s.many + ((n + 1 : Nat) : Int) := by omega
    simp only [core, e1, e2]
theorem rc_onK {n : Int} {s : LW} (h0 : 0 ≤ n) (h1 : s.place + n ≤ s.high) (h2 : s.high ≤ 2 * s.c) : ∃ q, RunC s (onK n) { s with place := s.place + n, many := q } := by
  unfold onK
  have a := rc_blanks (n / 2).toNat (s := s) (by omega) h2
  rcases (show n % 2 = 0 ∨ n % 2 = 1 by omega) with e | e
  · have e0 : List.replicate (n / 2).toNat Ky.blank ++ List.replicate (n % 2).toNat Ky.half = List.replicate (n / 2).toNat Ky.blank := by rw [e]; simp
    rw [e0]
    refine ⟨s.many + (((n / 2).toNat : Nat) : Int), a.to ?_⟩
    have e1 : s.place + 2 * (((n / 2).toNat : Nat) : Int) = s.place + n := by omega
    simp only [core, e1]
  · rw [e]
    have b := rc_half (s := { s with place := s.place + 2 * (((n / 2).toNat : Nat) : Int), many := s.many + (((n / 2).toNat : Nat) : Int) }) (.inr (by show s.place + 2 * (((n / 2).toNat : Nat) : Int) + 1 ≤ s.high; omega)) (by show s.place + 2 * (((n / 2).toNat : Nat) : Int) + 1 ≤ 2 * s.c; omega)
    refine ⟨s.many + (((n / 2).toNat : Nat) : Int) + 1, (a.app b).to ?_⟩
    have e1 : s.place + 2 * (((n / 2).toNat : Nat) : Int) + 1 = s.place + n := by omega
    simp only [core, e1]
theorem rc_margins {c : Int} {dead : List Nat} {dn : Int} (hM : MOk c dead dn) {l r : Int} (h0 : 0 ≤ l) (h1 : l < r) (h2 : r ≤ 2 * c) : ∃ q, RunC (newS c dead dn) (marK l r) { newS c dead dn with row := dn, place := l, low := l, high := r, many := q } := by
  have d2 := hM.d2
  have d4 := hM.d4
  unfold marK
  obtain ⟨q1, a1⟩ := rc_onK (n := r) (s := newS c dead dn) (by omega) (by show 0 + r ≤ 2 * c; omega) (by show 2 * c ≤ 2 * c; omega)
  have a2 := rc_right (s := { newS c dead dn with place := (newS c dead dn).place + r, many := q1 }) (by show (0 : Int) < 0 + r; omega)
  have a3 := rc_ret (s := { newS c dead dn with place := (newS c dead dn).place + r, high := (newS c dead dn).place + r, many := q1 + 1 }) (by show (0 : Int) ≤ 0 + dn; omega) (by show 0 + dn ≤ 60; omega)
  obtain ⟨q2, a4⟩ := rc_onK (n := l) (s := { newS c dead dn with row := 0 + dn, place := 0, high := 0 + r, free := false, many := q1 + 1 + 1 }) h0 (by show 0 + l ≤ 0 + r; omega) (by show 0 + r ≤ 2 * c; omega)
  have a5 := rc_left (s := { newS c dead dn with row := 0 + dn, place := 0 + l, high := 0 + r, free := false, many := q2 }) (by show 0 + l < 0 + r; omega)
  have e : onK r ++ [Ky.right, .ret] ++ (onK l ++ [.left]) = onK r ++ ([.right] ++ ([.ret] ++ (onK l ++ [.left]))) := by simp
  rw [e]
  refine ⟨q2 + 1, (a1.app (a2.app (a3.app (a4.app a5)))).to ?_⟩
  simp only [core, newS, newL, Int.zero_add]
def wishB (row p : Int) : List Nat → List D
  | [] => []
  | c :: cs => if c = 32 then wishB row (p + 2) cs else .tup [.int row, .int p, ch c, colD false] :: wishB row (p + 2) cs
structure Line (row p : Int) (ms : List Mk) : Prop where
  so : ms.Pairwise (fun a b => a.place < b.place)
  at_ : ∀ k ∈ ms, p ≤ k.place ∧ k.row = row ∧ k.sign < 128
theorem Line.cons {row p : Int} {ms : List Mk} (h : Line row (p + 2) ms) {k : Mk} (h1 : k.place = p) (h2 : k.row = row) (h3 : k.sign < 128) : Line row p (k :: ms) := by
  refine ⟨List.pairwise_cons.mpr ⟨fun b hb => ?_, h.so⟩, fun b hb => ?_⟩
  · have := (h.at_ b hb).1; omega
  · rcases List.mem_cons.mp hb with z | z
    · subst z; exact ⟨by omega, h2, h3⟩
    · obtain ⟨z1, z2, z3⟩ := h.at_ b z
      exact ⟨by omega, z2, z3⟩
theorem Line.up {row p : Int} {ms : List Mk} (h : Line row (p + 2) ms) : Line row p ms := ⟨h.so, fun b hb => by obtain ⟨z1, z2, z3⟩ := h.at_ b hb; exact ⟨by omega, z2, z3⟩⟩
theorem rc_text : ∀ (cs : List Nat) {s : LW}, (∀ c ∈ cs, c < 128 ∧ c ∉ s.dead) → (∀ d ∈ s.dead, ¬ (97 ≤ d ∧ d ≤ 122)) → s.caps = false → s.free = false → s.red = false → s.place + 2 * (cs.length : Int) ≤ s.high → s.high ≤ 2 * s.c →
    ∃ ms q, RunC s (keysK cs) { s with place := s.place + 2 * (cs.length : Int), marks := s.marks ++ ms, many := q } ∧ ms.map mkB = wishB s.row s.place cs ∧ Line s.row s.place ms
  | [], s, _, _, _, _, _, _, _ => ⟨[], s.many, by simpa [keysK] using RunC.nil (s := s) rfl, rfl, ⟨.nil, fun k hk => by simp at hk⟩⟩
  | k :: cs, s, hk, hd, hc, hf, hr, h1, h2 => by
    simp only [List.length_cons] at h1
    have hk0 := hk k List.mem_cons_self
    have hk' : ∀ c ∈ cs, c < 128 ∧ c ∉ s.dead := fun c hc => hk c (List.mem_cons_of_mem _ hc)
    have e1 : s.place + 2 + 2 * (cs.length : Int) = s.place + 2 * (((cs.length + 1 : Nat)) : Int) := by omega
    have ek : keysK (k :: cs) = keyK k ++ keysK cs := by simp [keysK]
    rw [ek]
    by_cases k32 : k = 32
    · have eK : keyK k = [.blank] := by simp [keyK, k32]
      have a := rc_blank (s := s) (.inr (by omega)) (by omega)
      obtain ⟨ms, q, b, b1, b2⟩ := rc_text cs (s := { s with place := s.place + 2, many := s.many + 1 }) hk' hd hc hf hr (by show s.place + 2 + 2 * (cs.length : Int) ≤ s.high; omega) h2
      rw [eK]
      refine ⟨ms, q, (a.app b).to ?_, ?_, b2.up⟩
      · simp only [core, e1, List.length_cons]
      · rw [b1]; simp only [wishB]; rw [if_pos k32]
    · by_cases kc : 65 ≤ k ∧ k ≤ 90
      · have eK : keyK k = [.caps] ++ ([.sign (k + 32)] ++ [.caps]) := by simp [keyK, k32, kc]
        have a0 := rc_caps (s := s)
        have hnd : k + 32 ∉ s.dead := fun z => hd _ z (by omega)
        have a1 := rc_sign (s := { s with caps := !s.caps, many := s.many + 1 }) (k := k + 32) (by omega) (.inr (by show s.place + 2 ≤ s.high; omega)) (by show s.place + 2 ≤ 2 * s.c; omega)
        rw [if_neg (show k + 32 ∉ ({ s with caps := !s.caps, many := s.many + 1 } : LW).dead from hnd)] at a1
        have ea : asL1 { s with caps := !s.caps, many := s.many + 1 } (k + 32) = k := by
          unfold asL1; simp only [hc]; unfold upC; simp; omega
        rw [ea] at a1
        have a2 := rc_caps (s := { s with caps := !s.caps, place := s.place + 2, marks := s.marks ++ [⟨s.many + 1, s.row, s.place, k, s.red⟩], many := s.many + 1 + 1 })
        obtain ⟨ms, q, b, b1, b2⟩ := rc_text cs (s := { s with caps := !(!s.caps), place := s.place + 2, marks := s.marks ++ [⟨s.many + 1, s.row, s.place, k, s.red⟩], many := s.many + 1 + 1 + 1 }) hk' hd (by simp [hc]) hf hr (by show s.place + 2 + 2 * (cs.length : Int) ≤ s.high; omega) h2
        rw [eK]
        refine ⟨⟨s.many + 1, s.row, s.place, k, s.red⟩ :: ms, q, ((a0.app (a1.app a2)).app b).to ?_, ?_, b2.cons rfl rfl hk0.1⟩
        · simp only [core, e1, List.length_cons, List.append_assoc, List.cons_append, List.nil_append, Bool.not_not]
        · rw [List.map_cons, b1]; simp only [wishB, mkB, hr]; rw [if_neg k32]
      · have eK : keyK k = [.sign k] := by simp [keyK, k32, kc]
        have a := rc_sign (s := s) hk0.1 (.inr (by omega)) (by omega)
        rw [if_neg hk0.2] at a
        have ea : asL1 s k = k := by unfold asL1; rw [hc]; rfl
        rw [ea] at a
        obtain ⟨ms, q, b, b1, b2⟩ := rc_text cs (s := { s with place := s.place + 2, marks := s.marks ++ [⟨s.many, s.row, s.place, k, s.red⟩], many := s.many + 1 }) hk' hd hc hf hr (by show s.place + 2 + 2 * (cs.length : Int) ≤ s.high; omega) h2
        rw [eK]
        refine ⟨⟨s.many, s.row, s.place, k, s.red⟩ :: ms, q, (a.app b).to ?_, ?_, b2.cons rfl rfl hk0.1⟩
        · simp only [core, e1, List.length_cons, List.append_assoc, List.cons_append, List.nil_append]
        · rw [List.map_cons, b1]; simp only [wishB, mkB, hr]; rw [if_neg k32]
theorem Line.sort {row p : Int} {ms : List Mk} (h : Line row p ms) (hn : ms.Pairwise (fun a b => a.n < b.n)) : sortM ms = ms := by
  refine sortM_id hn ?_
  refine h.so.imp_of_mem fun {a b} ha hb hab => ?_
  rw [mkLt_no]
  have := (h.at_ a ha).2.1
  have := (h.at_ b hb).2.1
  omega
end DL
end
section
set_option maxHeartbeats 0
namespace DL
open PySem
def ledK (p g : Int) : List Ky := List.replicate (backs p g).toNat .back ++ onK (g - (p - 2 * backs p g))
def stepK (dn : Int) (dead : List Nat) (row place : Int) (red : Bool) (k : Mk) : List Ky :=
  let b := decide (row < k.row) && decide (0 < place)
  let row1 := if b then homeR dn row else row
  let place1 := if b then 0 else place
  (if b then homeK dn row else []) ++ (List.replicate (k.row - row1).toNat .down ++ List.replicate (row1 - k.row).toNat .up ++ ledK place1 k.place) ++ (if k.red = red then [] else [.ribbon]) ++ keysK [k.sign]
def forK (dn : Int) (dead : List Nat) : Int → Int → Bool → List Mk → List Ky
  | _, _, _, [] => []
  | row, place, red, k :: ks => stepK dn dead row place red k ++ forK dn dead k.row (if k.sign ∈ dead then k.place else k.place + 2) k.red ks
theorem ledK_D (p g : Int) : (ledK p g).map kyD = ledD p g := by simp [ledK, ledD, onK_D, kyD, kyW]
theorem stepK_D (dn : Int) (dead : List Nat) (row place : Int) (red : Bool) (k : Mk) : (stepK dn dead row place red k).map kyD = stepD dn dead row place red k := by
  simp only [stepK, stepD, List.map_append, ledK_D, keysK_D, List.map_replicate]
  have e1 : kyD .down = k1 "down" := rfl
  have e2 : kyD .up = k1 "up" := rfl
  rw [e1, e2]
  congr 2
  · congr 1
    split <;> simp
  · split <;> simp [kyD, kyW]
theorem forK_D (dn : Int) (dead : List Nat) : ∀ (ks : List Mk) (row place : Int) (red : Bool), (forK dn dead row place red ks).map kyD = forD dn dead row place red ks
  | [], _, _, _ => rfl
  | k :: ks, row, place, red => by simp only [forK, forD, List.map_append, stepK_D, forK_D dn dead ks]
theorem rc_downs : ∀ (n : Nat) {s : LW}, 0 ≤ s.row → s.row + (n : Int) ≤ 60 → RunC s (List.replicate n .down) { s with row := s.row + n, many := s.many + n }
  | 0, s, _, _ => by simpa using RunC.nil (s := s) rfl
  | n + 1, s, h0, h => by
    have a := rc_down (s := s) (by omega) (by omega)
    have b := rc_downs n (s := { s with row := s.row + 1, many := s.many + 1 }) (by show 0 ≤ s.row + 1; omega) (by show s.row + 1 + (n : Int) ≤ 60; omega)
    rw [show List.replicate (n + 1) Ky.down = [Ky.down] ++ List.replicate n Ky.down from rfl]
    refine (a.app b).to ?_
    have e1 : s.row + 1 + (n : Int) = s.row + ((n + 1 : Nat) : Int) := by omega
    have e2 : s.many + 1 + (n : Int) = s.many + ((n + 1 : Nat) : Int) := by omega
    simp only [core, e1, e2]
theorem rc_ups : ∀ (n : Nat) {s : LW}, (n : Int) ≤ s.row → s.row ≤ 60 → RunC s (List.replicate n .up) { s with row := s.row - n, many := s.many + n }
  | 0, s, _, _ => by simpa using RunC.nil (s := s) rfl
  | n + 1, s, h0, h => by
    have a := rc_up (s := s) (by omega) (by omega)
    have b := rc_ups n (s := { s with row := s.row - 1, many := s.many + 1 }) (by show (n : Int) ≤ s.row - 1; omega) (by show s.row - 1 ≤ 60; omega)
    rw [show List.replicate (n + 1) Ky.up = [Ky.up] ++ List.replicate n Ky.up from rfl]
    refine (a.app b).to ?_
    have e1 : s.row - 1 - (n : Int) = s.row - ((n + 1 : Nat) : Int) := by omega
    have e2 : s.many + 1 + (n : Int) = s.many + ((n + 1 : Nat) : Int) := by omega
    simp only [core, e1, e2]
theorem rc_led {s : LW} {g : Int} (hb : 2 * backs s.place g ≤ s.place) (hp : 0 ≤ s.place) (hg0 : 0 ≤ g) (hg : g ≤ s.high) (hl : s.low = 0) (hh : s.high ≤ 2 * s.c) : ∃ q, RunC s (ledK s.place g) { s with place := g, many := q } := by
  have b0 := backs_nn s.place g
  obtain ⟨b1, b2⟩ := backs_le hp hg0
  have a := rc_backs (backs s.place g).toNat (s := s) (by omega) hl
  have e : s.place - 2 * (((backs s.place g).toNat : Nat) : Int) = s.place - 2 * backs s.place g := by omega
  obtain ⟨q, b⟩ := rc_onK (n := g - (s.place - 2 * backs s.place g)) (s := { s with place := s.place - 2 * (((backs s.place g).toNat : Nat) : Int), many := s.many + (((backs s.place g).toNat : Nat) : Int) }) (by omega) (by show s.place - 2 * (((backs s.place g).toNat : Nat) : Int) + (g - (s.place - 2 * backs s.place g)) ≤ s.high; omega) hh
  refine ⟨q, (a.app b).to ?_⟩
  have e2 : s.place - 2 * (((backs s.place g).toNat : Nat) : Int) + (g - (s.place - 2 * backs s.place g)) = g := by omega
  simp only [core, e2]
theorem rc_home {s : LW} (h0 : 0 ≤ s.row) (h1 : s.row ≤ 60) (d2 : 2 ≤ s.dn) (d4 : s.dn ≤ 4) (hl : s.low = 0) (hf : s.free = false) : ∃ q, RunC s (homeK s.dn s.row) { s with row := homeR s.dn s.row, place := 0, many := q } := by
  unfold homeK homeR
  by_cases h : 60 < s.row + s.dn
  · rw [if_pos h, if_neg (by omega)]
    have a := rc_ups s.dn.toNat (s := s) (by omega) h1
    have b := rc_ret (s := { s with row := s.row - ((s.dn.toNat : Nat) : Int), many := s.many + ((s.dn.toNat : Nat) : Int) }) (by show 0 ≤ s.row - ((s.dn.toNat : Nat) : Int) + s.dn; omega) (by show s.row - ((s.dn.toNat : Nat) : Int) + s.dn ≤ 60; omega)
    refine ⟨s.many + ((s.dn.toNat : Nat) : Int) + 1, (a.app b).to ?_⟩
    have e : s.row - ((s.dn.toNat : Nat) : Int) + s.dn = s.row := by omega
    simp only [core, e, hl, hf]
  · rw [if_neg h, if_pos (by omega)]
    refine ⟨s.many + 1, (rc_ret (s := s) (by omega) (by omega)).to ?_⟩
    simp only [core, hl, hf]
theorem rc_key {s : LW} {k : Nat} (hk : k < 128) (h32 : k ≠ 32) (hd : ∀ d ∈ s.dead, ¬ (97 ≤ d ∧ d ≤ 122) ∧ ¬ (65 ≤ d ∧ d ≤ 90)) (hc : s.caps = false) (h0 : s.place + 2 ≤ s.high) (h1 : s.high ≤ 2 * s.c) : ∃ n q, RunC s (keysK [k]) { s with place := (if k ∈ s.dead then s.place else s.place + 2), marks := s.marks ++ [⟨n, s.row, s.place, k, s.red⟩], many := q } := by
  have ek : keysK [k] = keyK k := by simp [keysK]
  rw [ek]
  by_cases kc : 65 ≤ k ∧ k ≤ 90
  · have eK : keyK k = [.caps] ++ ([.sign (k + 32)] ++ [.caps]) := by simp [keyK, h32, kc]
    rw [eK]
    have hn1 : k + 32 ∉ s.dead := fun z => (hd _ z).1 (by omega)
    have hn2 : k ∉ s.dead := fun z => (hd _ z).2 kc
    have a0 := rc_caps (s := s)
    have a1 := rc_sign (s := { s with caps := !s.caps, many := s.many + 1 }) (k := k + 32) (by omega) (.inr h0) (by show s.place + 2 ≤ 2 * s.c; omega)
    rw [if_neg (show k + 32 ∉ ({ s with caps := !s.caps, many := s.many + 1 } : LW).dead from hn1)] at a1
    have ea : asL1 { s with caps := !s.caps, many := s.many + 1 } (k + 32) = k := by
      unfold asL1; simp only [hc]; unfold upC; simp; omega
    rw [ea] at a1
    have a2 := rc_caps (s := { s with caps := !s.caps, place := s.place + 2, marks := s.marks ++ [⟨s.many + 1, s.row, s.place, k, s.red⟩], many := s.many + 1 + 1 })
    refine ⟨s.many + 1, s.many + 1 + 1 + 1, (a0.app (a1.app a2)).to ?_⟩
    rw [if_neg hn2]
    simp only [core, Bool.not_not]
  · have eK : keyK k = [.sign k] := by simp [keyK, h32, kc]
    rw [eK]
    have a := rc_sign (s := s) hk (.inr h0) (by omega)
    have ea : asL1 s k = k := by unfold asL1; rw [hc]; rfl
    rw [ea] at a
    exact ⟨s.many, _, a⟩
structure FS (s : LW) (c : Int) (dead : List Nat) (dn row place : Int) (red : Bool) : Prop where
  ec : s.c = c
  ed : s.dead = dead
  en : s.dn = dn
  er : s.row = row
  ep : s.place = place
  el : s.low = 0
  eh : s.high = 2 * c
  ered : s.red = red
  ecap : s.caps = false
  efree : s.free = false
theorem rc_step {c dn row place : Int} {dead : List Nat} {red : Bool} {k : Mk} {s : LW} (hM : MOk c dead dn) (hs : FS s c dead dn row place red) (hk : stOk c k) (k128 : k.sign < 128) (k32 : k.sign ≠ 32) (hd : ∀ d ∈ dead, ¬ (97 ≤ d ∧ d ≤ 122) ∧ ¬ (65 ≤ d ∧ d ≤ 90)) (r0 : 0 ≤ row) (r1 : row ≤ 60) (p0 : 0 ≤ place) (p1 : place ≤ 2 * c) (ho : row < k.row ∨ (row = k.row ∧ 2 * backs place k.place ≤ place)) :
    ∃ t n, RunC s (stepK dn dead row place red k) t ∧ FS t c dead dn k.row (if k.sign ∈ dead then k.place else k.place + 2) k.red ∧ t.marks = s.marks ++ [⟨n, k.row, k.place, k.sign, k.red⟩] := by
  obtain ⟨rfl, rfl, rfl, rfl, rfl, el, eh, rfl, ecap, efree⟩ := hs
  obtain ⟨kr0, kr1, kp0, kp1, ksg⟩ := hk
  have d2 := hM.d2
  have d4 := hM.d4
  -- behind home
  have rest : ∀ (u : LW), u.c = s.c → u.dead = s.dead → u.dn = s.dn → u.low = 0 → u.high = 2 * s.c → u.red = s.red → u.caps = false → u.free = false → u.marks = s.marks → 0 ≤ u.row → u.row ≤ 60 → 0 ≤ u.place → 2 * backs u.place k.place ≤ u.place →
      ∃ t n, RunC u ((List.replicate (k.row - u.row).toNat .down ++ List.replicate (u.row - k.row).toNat .up ++ ledK u.place k.place) ++ (if k.red = s.red then [] else [.ribbon]) ++ keysK [k.sign]) t ∧ FS t s.c s.dead s.dn k.row (if k.sign ∈ s.dead then k.place else k.place + 2) k.red ∧ t.marks = s.marks ++ [⟨n, k.row, k.place, k.sign, k.red⟩] := by
    intro u e1 e2 e3 e4 e5 e6 e7 e8 e9 u0 u1 up ub
    have a1 := rc_downs (k.row - u.row).toNat (s := u) u0 (by omega)
    have a2 := rc_ups (u.row - k.row).toNat (s := { u with row := u.row + (((k.row - u.row).toNat : Nat) : Int), many := u.many + (((k.row - u.row).toNat : Nat) : Int) }) (by show (((u.row - k.row).toNat : Nat) : Int) ≤ u.row + (((k.row - u.row).toNat : Nat) : Int); omega) (by show u.row + (((k.row - u.row).toNat : Nat) : Int) ≤ 60; omega)
    have a12 := a1.app a2
    have er : u.row + (((k.row - u.row).toNat : Nat) : Int) - (((u.row - k.row).toNat : Nat) : Int) = k.row := by omega
    replace a12 : ∃ q, RunC u (List.replicate (k.row - u.row).toNat .down ++ List.replicate (u.row - k.row).toNat .up) { u with row := k.row, many := q } := ⟨u.many + (((k.row - u.row).toNat : Nat) : Int) + (((u.row - k.row).toNat : Nat) : Int), a12.to (by simp only [core, er])⟩
    obtain ⟨q2, a12⟩ := a12
    obtain ⟨q3, a3⟩ := rc_led (s := { u with row := k.row, many := q2 }) (g := k.place) ub up kp0 (by show k.place ≤ u.high; omega) e4 (by show u.high ≤ 2 * u.c; omega)
    have a4 : ∃ q, RunC { u with row := k.row, place := k.place, many := q3 } (if k.red = s.red then [] else [.ribbon]) { u with row := k.row, place := k.place, red := k.red, many := q } := by
      by_cases h : k.red = s.red
      · rw [if_pos h]
        exact ⟨q3, RunC.nil (by simp only [core, h, e6])⟩
      · rw [if_neg h]
        have hn : (!u.red) = k.red := by rw [e6]; revert h; cases k.red <;> cases s.red <;> simp
        refine ⟨q3 + 1, (rc_ribbon (s := { u with row := k.row, place := k.place, many := q3 })).to ?_⟩
        simp only [core, hn]
    obtain ⟨q4, a4⟩ := a4
    obtain ⟨n, q5, a5⟩ := rc_key (s := { u with row := k.row, place := k.place, red := k.red, many := q4 }) k128 k32 (by show ∀ d ∈ u.dead, _; rw [e2]; exact hd) e7 (by show k.place + 2 ≤ u.high; omega) (by show u.high ≤ 2 * u.c; omega)
    refine ⟨_, n, ((a12.app a3).app a4).app a5, ⟨e1, e2, e3, rfl, ?_, e4, e5, rfl, e7, e8⟩, ?_⟩
    · show (if k.sign ∈ u.dead then k.place else k.place + 2) = _
      rw [e2]
    · show u.marks ++ _ = _
      rw [e9]
  unfold stepK
  by_cases hb : s.row < k.row ∧ 0 < s.place
  · have hb' : (decide (s.row < k.row) && decide (0 < s.place)) = true := by simp [hb]
    simp only [hb', if_true]
    obtain ⟨q, a⟩ := rc_home (s := s) r0 r1 d2 d4 el efree
    have hh : homeR s.dn s.row ≤ 60 ∧ 0 ≤ homeR s.dn s.row := by unfold homeR; split <;> omega
    obtain ⟨t, n, b, f, m⟩ := rest { s with row := homeR s.dn s.row, place := 0, many := q } rfl rfl rfl el eh rfl ecap efree rfl hh.2 hh.1 (Int.le_refl 0) (by show 2 * backs 0 k.place ≤ 0; unfold backs; omega)
    refine ⟨t, n, ?_, f, m⟩
    rw [List.append_assoc, List.append_assoc]
    refine a.app ?_
    rw [← List.append_assoc]; exact b
  · have hb' : (decide (s.row < k.row) && decide (0 < s.place)) = false := by
      rw [Bool.and_eq_false_iff]
      by_cases h1 : s.row < k.row
      · right; simp; omega
      · left; simp; omega
    simp only [hb', Bool.false_eq_true, if_false, List.nil_append]
    refine rest s rfl rfl rfl el eh rfl ecap efree rfl r0 r1 p0 ?_
    rcases ho with h | h
    · have : s.place = 0 := by omega
      rw [this]; unfold backs; omega
    · exact h.2
theorem rc_for {c dn : Int} {dead : List Nat} (hM : MOk c dead dn) (hd : ∀ d ∈ dead, ¬ (97 ≤ d ∧ d ≤ 122) ∧ ¬ (65 ≤ d ∧ d ≤ 90)) : ∀ (ks : List Mk) {s : LW} {row place : Int} {red : Bool}, FS s c dead dn row place red → (∀ k ∈ ks, stOk c k ∧ k.sign < 128 ∧ k.sign ≠ 32) → ks.Pairwise (fun a b => mkLt b a = false) → 0 ≤ row → row ≤ 60 → 0 ≤ place → place ≤ 2 * c → (∀ k ∈ ks, row < k.row ∨ (row = k.row ∧ 2 * backs place k.place ≤ place)) →
    ∃ t ms, RunC s (forK dn dead row place red ks) t ∧ t.marks = s.marks ++ ms ∧ ms.map mkB = ks.map mkB
  | [], s, row, place, red, _, _, _, _, _, _, _, _ => ⟨s, [], RunC.nil rfl, by simp, rfl⟩
  | k :: ks, s, row, place, red, hs, hk, hp, r0, r1, p0, p1, ho => by
    obtain ⟨h1, h2⟩ := List.pairwise_cons.mp hp
    obtain ⟨ko, k128, k32⟩ := hk k List.mem_cons_self
    obtain ⟨t, n, a, f, m⟩ := rc_step hM hs ko k128 k32 hd r0 r1 p0 p1 (ho k List.mem_cons_self)
    have kp0 := ko.p0
    have kp1 := ko.p1
    obtain ⟨t2, ms, b, m2, e⟩ := rc_for hM hd ks f (fun j hj => hk j (List.mem_cons_of_mem _ hj)) h2 ko.r0 ko.r1 (by split <;> omega) (by split <;> omega) (fun j hj => by
      have z := h1 j hj
      rw [mkLt_no] at z
      by_cases e : k.row < j.row
      · exact .inl e
      · refine .inr ⟨by omega, ?_⟩
        unfold backs
        split <;> omega)
    exact ⟨t2, ⟨n, k.row, k.place, k.sign, k.red⟩ :: ms, a.app b, by rw [m2, m]; simp, by simp [e, mkB]⟩
theorem for_all {c dn : Int} {dead : List Nat} (hM : MOk c dead dn) {ks : List Mk} (hk : ∀ k ∈ ks, stOk c k ∧ k.sign < 128 ∧ k.sign ≠ 32) (hp : ks.Pairwise (fun a b => mkLt b a = false)) :
    (∀ d ∈ (runL (newS c dead dn) (forK dn dead 0 0 false ks)).2, Good d) ∧ (sortM (runL (newS c dead dn) (forK dn dead 0 0 false ks)).1.marks).map mkB = ks.map mkB ∧ (runL (newS c dead dn) (forK dn dead 0 0 false ks)).1.marks.length = ks.length := by
  have hd : ∀ d ∈ dead, ¬ (97 ≤ d ∧ d ≤ 122) ∧ ¬ (65 ≤ d ∧ d ≤ 90) := by
    have : ∀ dead ∈ deads, ∀ d ∈ dead, ¬ (97 ≤ d ∧ d ≤ 122) ∧ ¬ (65 ≤ d ∧ d ≤ 90) := by decide
    exact this dead hM.de
  have hc := hM.lo
  obtain ⟨t, ms, a, m, e⟩ := rc_for hM hd ks (s := newS c dead dn) (row := 0) (place := 0) (red := false) ⟨rfl, rfl, rfl, rfl, rfl, rfl, rfl, rfl, rfl, rfl⟩ hk hp (by omega) (by omega) (by omega) (by omega) (fun k h => by
    have := (hk k h).1.r0
    have := (hk k h).1.p0
    by_cases z : 0 < k.row
    · exact .inl z
    · refine .inr ⟨by omega, ?_⟩
      unfold backs; omega)
  have hm : (runL (newS c dead dn) (forK dn dead 0 0 false ks)).1.marks = ms := by
    have := congrArg LW.marks a.at_
    simp only [core] at this
    rw [this, m]; rfl
  have hok : (runL (newS c dead dn) (forK dn dead 0 0 false ks)).1.ok := ok_run (new_ok hM)
  have hn := hok.mn
  rw [hm] at hn ⊢
  have hlen : ms.length = ks.length := by rw [← List.length_map (f := mkB), e, List.length_map]
  have hs : sortM ms = ms := by
    refine sortM_id hn ?_
    rw [List.pairwise_iff_getElem]
    intro i j hi hj hij
    have hki : i < ks.length := by omega
    have hkj : j < ks.length := by omega
    have g : ∀ (i : Nat) (hi : i < ms.length) (hk : i < ks.length), ms[i].row = ks[i].row ∧ ms[i].place = ks[i].place := by
      intro i hi hk
      have : (ms.map mkB)[i]? = (ks.map mkB)[i]? := by rw [e]
      simp only [List.getElem?_map, List.getElem?_eq_getElem hi, List.getElem?_eq_getElem hk, Option.map_some, Option.some.injEq, mkB, D.tup.injEq, List.cons.injEq, D.int.injEq] at this
      exact ⟨this.1, this.2.1⟩
    have z := List.pairwise_iff_getElem.mp hp i j hki hkj hij
    have y := List.pairwise_iff_getElem.mp hn i j hi hj hij
    rw [mkLt_no] at z ⊢
    have g1 := g i hi hki
    have g2 := g j hj hkj
    omega
  rw [hs]
  exact ⟨a.good, e, hlen⟩
end DL
end
section
set_option maxHeartbeats 0
namespace DL
open PySem PySem.Spec PyProof.Rows L2
section
variable {prog : Program} {w : World} {A : Around} {E : Value → Shared → Prop} {s : Shared}
theorem rev_adjust (n : Nat) : Builtin.Slice.sliceAdjust none none (-1) (n : Int) = ((n : Int) - 1, -1) := by
  unfold Builtin.Slice.sliceAdjust
  simp
theorem rev_places (n : Nat) : Builtin.Slice.slicePlaces ((n : Int) - 1) (-1) (-1) = n := by
  unfold Builtin.Slice.slicePlaces
  have h1 : ¬ ((-1 : Int) > 0) := by omega
  simp only [h1, if_false]
  simp only [Int.neg_neg, Int.ediv_one]
  split <;> omega
theorem rev_pick (xs : Array Value) : ((List.range xs.size).filterMap fun (m : Nat) => xs[((xs.size : Int) - 1 + (m : Int) * (-1)).toNat]?).toArray = xs.toList.reverse.toArray := by
  congr 1
  have e : (List.range xs.size).filterMap (fun (m : Nat) => xs[((xs.size : Int) - 1 + (m : Int) * (-1)).toNat]?) = (List.range xs.size).filterMap (fun m => xs.toList.reverse[m]?) := by
    have cg : ∀ (l : List Nat) (f g : Nat → Option Value), (∀ m ∈ l, f m = g m) → l.filterMap f = l.filterMap g := fun l f g => by
      induction l with
      | nil => exact fun _ => rfl
      | cons a l ih => exact fun h => by rw [List.filterMap_cons, List.filterMap_cons, h a List.mem_cons_self, ih fun m hm => h m (List.mem_cons_of_mem _ hm)]
    refine cg _ _ _ fun m hm => ?_
    have hm' : m < xs.size := List.mem_range.mp hm
    have e1 : ((xs.size : Int) - 1 + (m : Int) * (-1)).toNat = xs.size - 1 - m := by omega
    rw [e1, List.getElem?_reverse (by simpa using hm'), ← Array.getElem?_toList, Array.length_toList]
  rw [e]
  have key : ∀ (l : List Value) (n : Nat), n ≤ l.length → (List.range n).filterMap (fun m => l[m]?) = l.take n := by
    intro l n
    induction n with
    | zero => intro _; simp
    | succ n ih =>
      intro hn
      rw [List.range_succ, List.filterMap_append, ih (by omega), List.filterMap_cons_some (List.getElem?_eq_getElem (show n < l.length by omega)), List.take_succ, List.getElem?_eq_getElem (show n < l.length by omega)]; rfl
  have h := key xs.toList.reverse xs.size (by simp)
  rw [h, List.take_of_length_le (by simp)]
theorem getItem_tuple_rev {t sl : Addr} {items : Array Value} {vl vu vs : Value} {Q : Value → Shared → Prop} (ht : IsTup s.heap t items) (hs : s.heap.IsSliceOf sl vl vu vs) (pl : IsPart vl none) (pu : IsPart vu none) (ps : IsPart vs (some (-1)))
    (h : Q (.ref s.heap.objs.size) { s with heap := s.heap.push { cls := .type "tuple", data := .seq items.toList.reverse.toArray } }) (hsz : items.size ≤ sizeLine) : wpAny (model prog w) A (getItem (.ref t) (.ref sl)) Q E s := by
  have htake : sizeOk (.seq items.toList.reverse.toArray) := by
    show items.toList.reverse.toArray.size ≤ sizeLine
    rw [List.size_toArray, List.length_reverse, Array.length_toList]; exact hsz
  obtain ⟨os, hos, hcs, hds⟩ := id hs
  unfold getItem
  try with_reducible refine wpAny_holding ?_
  first | refine wpAny_bind (wpAny_pure ?_) | skip
  refine wpAny_bind (wpAny_sequenceKey ht.typeIs (by decide) ?_)
  refine wpAny_bind (wpAny_callSpecial?_slot (name := Str.ofString "__getitem__") ht.typeIs PyProof.Rows.slot_tuple_getitem
    (wpAny_call_entry PyProof.Rows.slot_tuple_getitem ht.typeIs entry_tuple_getitem ?_ (args_tuple_getitem _ _)))
  show wpAny _ _ (Builtin.Tuple.tupleItemsOf (.ref t) >>= _) _ _ s
  refine wpAny_bind (tupleItemsOf_ ht ?_)
  refine wpAny_bind (wpAny_typeOf ⟨os, hos, hcs⟩ ?_)
  rw [if_pos (by decide)]
  have ap : ∀ (K : Int × Int × Nat → Shared → Prop), K ((items.size : Int) - 1, -1, items.size) s → wpAny (model prog w) A.in1 (Builtin.Slice.sliceApplied (.ref sl) (pure (items.size : Int))) K E s := fun K hK => by
    unfold Builtin.Slice.sliceApplied Builtin.Slice.sliceFields
    refine wpAny_bind (wpAny_bind (wpAny_field hos hds (x := vl) rfl (wpAny_bind (wpAny_field hos hds (x := vu) rfl (wpAny_bind (wpAny_field hos hds (x := vs) rfl (wpAny_pure ?_)))))))
    refine wpAny_bind (HT.slicePart_ ps ?_)
    show wpAny _ _ (if ((-1 : Int) == 0) = true then _ else _) _ _ s
    rw [if_neg (by decide)]
    refine wpAny_bind (HT.slicePart_ pl (wpAny_bind (HT.slicePart_ pu (wpAny_bind (wpAny_pure ?_)))))
    show wpAny _ _ (match Builtin.Slice.sliceAdjust none none (-1) (items.size : Int) with | (lo, hi) => pure (lo, (-1 : Int), Builtin.Slice.slicePlaces lo hi (-1))) _ _ s
    rw [rev_adjust]
    show wpAny _ _ (pure ((items.size : Int) - 1, (-1 : Int), Builtin.Slice.slicePlaces ((items.size : Int) - 1) (-1) (-1))) _ _ s
    rw [rev_places]
    exact wpAny_pure hK
  refine wpAny_bind (ap _ ?_)
  show wpAny _ _ (if (((items.size : Int) - 1) == 0 && (-1 : Int) == 1 && items.size == items.size) = true then _ else _) _ _ s
  rw [if_neg (by simp), rev_pick]
  first
    | exact wpAny_bind (m := Builtin.Tuple.tupleExact _) (wpAny_newObj_type (wpAny_pure ⟨_, rfl, wpAny_pure h⟩) htake)
    | exact wpAny_bind (m := Builtin.Tuple.tupleExact _) (wpAny_newObj_type (wpAny_bind (wpAny_pure (wpAny_pure ⟨_, rfl, wpAny_pure h⟩))) htake)
    | exact wpAny_bind (wpAny_bind (m := Builtin.Tuple.tupleExact _) (wpAny_newObj_type (wpAny_pure (wpAny_pure ⟨_, rfl, wpAny_pure h⟩)) htake))
    | exact wpAny_bind (wpAny_bind (m := Builtin.Tuple.tupleExact _) (wpAny_newObj_type (wpAny_pure ⟨_, rfl, wpAny_pure h⟩) htake))
end
section
variable {X : Cx} {W : WX} {a : Expr} {fa : WE}
def tRevT (K : PySem.W.Frag) (te : TE) : TE := fun σ H Q => te σ H fun x H1 => ∃ a xs, x = .ref a ∧ SqT K H1 a xs ∧ ∀ p, H1 p = none → Q (.ref p) (upd H1 p (.tup xs.reverse))
theorem pe_revT {e : Expr} {te : TE} {k : Nat} {p1 p2 p3 pos : Pos} (he : PE X e te) : PE X (.Subscript e (.Slice none none (some (.UnaryOp .USub (.Constant (.int 1) k p1) p2)) p3) pos) (tRevT X.K te) := by
  refine ⟨fun pins s σ H Q I h => ?_⟩
  refine Subscript_ (thn (he.run pins s σ H _ I h) fun v s1 ⟨x, H1, I1, r1, q1⟩ => ?_)
  obtain ⟨b, xs, rfl, hx, q⟩ := q1
  cases r1
  have hst : PO X (some (.UnaryOp .USub (.Constant (.int 1) k p1) p2)) (tPart (tUn (rU fun i => .int (-i)) (tC (.int 1)))) := po_some (pe_un un_neg pe_int)
  refine wpAny_Slice (thn (po_none.run pins s1 σ H1 (fun o H2 => o = none ∧ H2 = H1) I1 ⟨rfl, rfl⟩) fun vl s2 ⟨l, H2, I2, pl, el, e2⟩ => ?_)
  subst el e2
  refine thn (po_none.run pins s2 σ H2 (fun o H3 => o = none ∧ H3 = H2) I2 ⟨rfl, rfl⟩) fun vu s3 ⟨u, H3, I3, pu, eu, e3⟩ => ?_
  subst eu e3
  refine thn (hst.run pins s3 σ H3 (fun o H4 => o = some (-1) ∧ H4 = H3) I3 ⟨1, rfl, -1, rfl, rfl, rfl⟩) fun vs s4 ⟨o, H4, I4, ps, eo, e4⟩ => ?_
  subst eo e4
  have I5 : Inv X pins σ H4 { s4 with heap := s4.heap.push { cls := .type "slice", data := .fields #[vl, vu, vs] } } := I4.kept (t' := s4.toks) fun b ob q => Heap.get?_push_of_some _ q
  obtain ⟨its, r, ht, hz⟩ := I5.tuple hx
  have hlen := r.length
  show wpAny (model X.prog X.w) X.A (subscriptTail e (.Slice none none (some (.UnaryOp .USub (.Constant (.int 1) k p1) p2)) p3) (.ref b) (.ref s4.heap.objs.size)) (EP X pins σ Q) X.xe { s4 with heap := s4.heap.push { cls := .type "slice", data := .fields #[vl, vu, vs] } }
  refine tail_any (ops := [.ref b, .ref s4.heap.objs.size]) ht.typeIs (PyProof.Rows.slot_tuple_getitem.lookup) ?_ (by with_unfolding_all rfl)
  refine getItem_tuple_rev ht (Heap.IsSliceOf.new _ vl vu vs) pl pu ps ?_ (by rw [List.size_toArray]; omega)
  refine ⟨.ref _, _, I5.laid (t' := s4.toks) (o := .tup xs.reverse) (fun b ob q => Heap.get?_push_of_some _ q) (Nat.le_refl _) ?_, rfl, q _ (I5.hok.fresh (Nat.le_refl _))⟩
  exact ⟨by rw [List.length_reverse]; exact hz, _, r.reverse, IsTup.new _ _⟩
theorem DpAll.snoc {K : PySem.W.Frag} {B : Hp} : ∀ {as : List V} {es : List D} {v : V} {d : D}, DpAll K B as es → Dp K B v d → DpAll K B (as ++ [v]) (es ++ [d])
  | _, _, _, _, .nil, h2 => .cons h2 .nil
  | _, _, _, _, .cons a b, h2 => .cons a (DpAll.snoc b h2)
theorem DpAll.rev {K : PySem.W.Frag} {B : Hp} : ∀ {vs : List V} {ds : List D}, DpAll K B vs ds → DpAll K B vs.reverse ds.reverse
  | _, _, .nil => .nil
  | _, _, .cons a b => by rw [List.reverse_cons, List.reverse_cons]; exact DpAll.snoc (DpAll.rev b) a
def wRevL (b : Bool) (a : WE) : WE := fun r m R x => a r m (fun u m1 => ok (asL m1 u) fun xs => wNw b xs.reverse m1 R) x
theorem pd_revL {b : Bool} {k : Nat} {p1 p2 p3 pos : Pos} (ha : PE X a (up X.K W fa)) : PE X (.Subscript a (.Slice none none (some (.UnaryOp .USub (.Constant (.int 1) k p1) p2)) p3) pos) (up X.K W (wRevL b fa)) := PE.imp (pe_revL ha) fun σ H Q h => by
  obtain ⟨B, ρ, m, R, x, er, S, h, t, tx⟩ := h
  refine ⟨B, ρ, m, _, x, er, S, h, fun B1 d m1 u H1 s1 S1 f1 p1 q1 => ?_, tx⟩
  obtain ⟨xs, h1, h2⟩ := ok_iff.mp q1
  obtain ⟨l, vs, rfl, hl, pa⟩ := seqL S1 p1 h1
  exact ⟨l, vs, rfl, .inl (.inl hl), fun q nq => eff_nw S1 (t.step s1 f1) pa.rev h2 q nq⟩
def wRevT (a : WE) : WE := fun r m R x => a r m (fun u m1 => match u with | .tup xs => R (.tup xs.reverse) m1 | _ => False) x
theorem pd_revT {k : Nat} {p1 p2 p3 pos : Pos} (ha : PE X a (up X.K W fa)) : PE X (.Subscript a (.Slice none none (some (.UnaryOp .USub (.Constant (.int 1) k p1) p2)) p3) pos) (up X.K W (wRevT fa)) := PE.imp (pe_revT ha) fun σ H Q h => by
  obtain ⟨B, ρ, m, R, x, er, S, h, t, tx⟩ := h
  refine ⟨B, ρ, m, _, x, er, S, h, fun B1 d m1 u H1 s1 S1 f1 p1 q1 => ?_, tx⟩
  cases p1 with
  | tup h1 h2 => exact ⟨_, _, rfl, sqT_mono S1.same h1, fun q nq => eff_tup S1 (t.step s1 f1) h2.rev q1 q nq⟩
  | _ => exact q1.elim
end
@[simp] theorem e_revL (b : Bool) (a : WE) (r : Env) (m : Store) (R : KD) (x : XD) : wRevL b a r m R x = a r m (fun u m1 => ok (asL m1 u) fun xs => wNw b xs.reverse m1 R) x := rfl
@[simp] theorem e_revT (a : WE) (r : Env) (m : Store) (R : KD) (x : XD) : wRevT a r m R x = a r m (fun u m1 => match u with | .tup xs => R (.tup xs.reverse) m1 | _ => False) x := rfl
end DL
end
section
set_option maxHeartbeats 0
namespace DL
open PySem
def ph__law_ask (A : Ad) : FW := fun ds m R x => ∃ (c : Int) (dead : List Nat) (dn : Int) (d : D), ds = [machD c dead dn, d] ∧ MOk c dead dn ∧ kArg m d ∧ (strikesB c m d = false → R (refD 5) m) ∧
  ∀ ms : List Mk, asL m d = some (ms.map mkB) → Num ms → (∀ k ∈ ms, stOk c k) → ms.length ≤ 60 → R (.tup (forD dn dead 0 0 false (sortM ms))) m
def ph_law (A : Ad) : FW := phL
end DL
end
section
set_option maxHeartbeats 0
namespace DL
open PySem
def wh (A : Ad) (C : Addr) : Option D := if C = A.xNoStrikes then some (refD 5) else none
def psi__law_ask (A : Ad) : WS := wTry (wh A) (wRet (wCall 2 (ph_keys_for A) (wCons (wVar 0) (wCons (wVar 1) (wNil)))))
def psi_law_t19 (A : Ad) : WS := wRet (wOp wEq (wCall 2 (ph_strikes A) (wCons (wVar 4) (wCons (wCall 2 (ph__law_ask A) (wCons (wVar 4) (wCons (wRevL false (wVar 16)) (wNil)))) (wNil)))) (wVar 16))
def psi_law_t18 (A : Ad) : WS := wSeq (wSet 16 (wLst false (wCons (wTup (wCons (wC (.int 59)) (wCons (wC (.int 1)) (wCons (wC (.str (PySem.Str.ofString "a"))) (wCons (wC (.str (PySem.Str.ofString "black"))) (wNil)))))) (wCons (wTup (wCons (wC (.int 60)) (wCons (wC (.int 0)) (wCons (wC (.str (PySem.Str.ofString "b"))) (wCons (wC (.str (PySem.Str.ofString "red"))) (wNil)))))) (wCons (wTup (wCons (wC (.int 60)) (wCons (wOp wSub (wVar 5) (wC (.int 2))) (wCons (wC (.str (PySem.Str.ofString "z"))) (wCons (wC (.str (PySem.Str.ofString "red"))) (wNil)))))) (wNil)))))) (psi_law_t19 A)
def psi_law_t17 (A : Ad) : WS := wSeq (wIfS (wTest (wOp wNe (wCall 2 (ph__law_ask A) (wCons (wVar 4) (wCons (wCall 3 (ph__law_pick A) (wCons (wVar 0) (wCons (wVar 1) (wCons (wOp (wAdd false) (wVar 15) (wLst false (wCons (wLst false (wCons (wTup (wCons (wC (.int 0)) (wCons (wC (.int 0)) (wCons (wC (.str (PySem.Str.ofString " "))) (wCons (wC (.str (PySem.Str.ofString "red"))) (wNil)))))) (wNil))) (wNil)))) (wNil))))) (wNil)))) (wTup (wCons (wC (.str (PySem.Str.ofString "refused"))) (wCons (wC (.int 5)) (wNil)))))) (wRet (wC (.bl false))) (wNext)) (psi_law_t18 A)
def psi_law_t16 (A : Ad) : WS := wSeq (wExp (wMt "list" wExtend (wVar 15) (wCons (wLst false (wCons (wLst false (wCons (wTup (wCons (wC (.int 0)) (wCons (wC (.int 0)) (wCons (wC (.str (PySem.Str.ofString "ab"))) (wCons (wC (.str (PySem.Str.ofString "red"))) (wNil)))))) (wNil))) (wCons (wOp (wMul false) (wLst false (wCons (wTup (wCons (wC (.int 0)) (wCons (wC (.int 0)) (wCons (wC (.str (PySem.Str.ofString "a"))) (wCons (wC (.str (PySem.Str.ofString "red"))) (wNil)))))) (wNil))) (wC (.int 61))) (wCons (wLst false (wCons (wTup (wCons (wC (.int 0)) (wCons (wC (.int 0)) (wCons (wC .non) (wCons (wC (.str (PySem.Str.ofString "red"))) (wNil)))))) (wNil))) (wCons (wLst false (wCons (wTup (wCons (wC (.int 0)) (wCons (wC (.int 0)) (wCons (wC (.str (PySem.Str.ofString "a"))) (wCons (wC .non) (wNil)))))) (wNil))) (wNil)))))) (wNil)))) (psi_law_t17 A)
def psi_law_t15 (A : Ad) : WS := wSeq (wExp (wMt "list" wExtend (wVar 15) (wCons (wLst false (wCons (wLst false (wCons (wTup (wCons (wC (.int 0)) (wCons (wC (.int 0)) (wCons (wC (.str (PySem.Str.ofString "a"))) (wCons (wC (.str (PySem.Str.ofString "blue"))) (wNil)))))) (wNil))) (wCons (wLst false (wCons (wLst false (wCons (wC (.int 0)) (wCons (wC (.int 0)) (wCons (wC (.str (PySem.Str.ofString "a"))) (wCons (wC (.str (PySem.Str.ofString "red"))) (wNil)))))) (wNil))) (wCons (wLst false (wCons (wTup (wCons (wUn wNeg (wC (.int 1))) (wCons (wC (.int 0)) (wCons (wC (.str (PySem.Str.ofString "a"))) (wCons (wC (.str (PySem.Str.ofString "red"))) (wNil)))))) (wNil))) (wCons (wLst false (wCons (wTup (wCons (wC (.int 0)) (wCons (wC (.bl true)) (wCons (wC (.str (PySem.Str.ofString "a"))) (wCons (wC (.str (PySem.Str.ofString "red"))) (wNil)))))) (wNil))) (wNil)))))) (wNil)))) (psi_law_t16 A)
def psi_law_t14 (A : Ad) : WS := wSeq (wSet 15 (wLst true (wCons (wC .non) (wCons (wCallB wTuple (wCons (wVar 6) (wNil))) (wCons (wLst false (wCons (wC .non) (wNil))) (wCons (wLst false (wCons (wTup (wCons (wC (.int 0)) (wCons (wC (.int 0)) (wCons (wC (.str (PySem.Str.ofString "a"))) (wNil))))) (wNil))) (wCons (wLst false (wCons (wTup (wCons (wC (.int 0)) (wCons (wOp wSub (wVar 5) (wC (.int 1))) (wCons (wC (.str (PySem.Str.ofString "a"))) (wCons (wC (.str (PySem.Str.ofString "red"))) (wNil)))))) (wNil))) (wCons (wLst false (wCons (wTup (wCons (wC (.int 61)) (wCons (wC (.int 0)) (wCons (wC (.str (PySem.Str.ofString "a"))) (wCons (wC (.str (PySem.Str.ofString "red"))) (wNil)))))) (wNil))) (wNil))))))))) (psi_law_t15 A)
def psi_law_t13 (A : Ad) : WS := wSeq (wIfS (wOr (wTest (wOp wNe (wLc false [19] (iSeq (wCall 1 (ph__law_marks A) (wCons (wVar 11) (wNil)))) (gNm 19) (wYes) (wSl (wCut false) (wVar 19) (oSome (wC (.int 1))) (oNone))) (wVar 14))) (wTest (wOp wNe (wCall 2 (ph_strikes A) (wCons (wVar 4) (wCons (wVar 10) (wNil)))) (wVar 14)))) (wRet (wC (.bl false))) (wNext)) (psi_law_t14 A)
def psi_law_t12 (A : Ad) : WS := wSeq (wSet 14 (wLc false [18, 8, 7] (iSeq (wVar 13)) (gTp [18, 8, 7]) (wYes) (wOp wIx (wVar 6) (wVar 7)))) (psi_law_t13 A)
def psi_law_t11 (A : Ad) : WS := wSeq (wSet 13 (wCallB (wSortD false) (wCons (wLc false [7, 17] (iEnumL (wVar 6)) (gTp [7, 17]) (wYes) (wTup (wCons (wOp wIx (wVar 17) (wC (.int 0))) (wCons (wOp wIx (wVar 17) (wC (.int 1))) (wCons (wVar 7) (wNil)))))) (wNil)))) (psi_law_t12 A)
def psi_law_t10 (A : Ad) : WS := wSeq (wIfS (wTest (wOp wIn (wTup (wCons (wC (.str (PySem.Str.ofString "locked"))) (wNil))) (wVar 12))) (wRet (wC (.bl false))) (wNext)) (psi_law_t11 A)
def psi_law_t9 (A : Ad) : WS := wSeq (wAsg (wCall 3 (ph__law_worked A) (wCons (wVar 4) (wCons (wTup (wNil)) (wCons (wVar 10) (wNil))))) (gTp [11, 12])) (psi_law_t10 A)
def psi_law_t8 (A : Ad) : WS := wSeq (wIfS (wNot (wTest (wCallB wIsi (wCons (wVar 10) (wCons (wC (.ty "tuple")) (wNil)))))) (wRet (wC (.bl false))) (wNext)) (psi_law_t9 A)
def psi_law_t7 (A : Ad) : WS := wSeq (wSet 10 (wCall 2 (ph__law_ask A) (wCons (wVar 4) (wCons (wVar 6) (wNil))))) (psi_law_t8 A)
def psi_law_t6 (A : Ad) : WS := wSeq (wFor (iRange1 (wVar 3)) (gNm 7) (wSeq (wSet 8 (wCall 3 (ph__law_draw A) (wCons (wVar 0) (wCons (wVar 1) (wCons (wCall 3 (ph__law_pick A) (wCons (wVar 0) (wCons (wVar 1) (wCons (wLst false (wCons (wC (.int 3)) (wCons (wOp wSub (wVar 5) (wC (.int 1))) (wNil)))) (wNil))))) (wNil)))))) (wSeq (wSet 9 (wCall 3 (ph__law_pick A) (wCons (wVar 0) (wCons (wVar 1) (wCons (wLst false (wCons (wC (.str (PySem.Str.ofString "black"))) (wCons (wC (.str (PySem.Str.ofString "red"))) (wNil)))) (wNil)))))) (wExp (wMt "list" wAppend (wVar 6) (wCons (wTup (wCons (wCall 3 (ph__law_draw A) (wCons (wVar 0) (wCons (wVar 1) (wCons (wVar 2) (wNil))))) (wCons (wVar 8) (wCons (wCall 3 (ph__law_pick A) (wCons (wVar 0) (wCons (wVar 1) (wCons (wC (.str (PySem.Str.ofString "abAB0.'^~"))) (wNil))))) (wCons (wVar 9) (wNil)))))) (wNil))))))) (psi_law_t7 A)
def psi_law_t5 (A : Ad) : WS := wSeq (wSet 6 (wLst true (wNil))) (psi_law_t6 A)
def psi_law_t4 (A : Ad) : WS := wSeq (wSet 5 (wOp (wMul false) (wC (.int 2)) (wOp wIx (wVar 4) (wC (.int 0))))) (psi_law_t5 A)
def psi_law_t3 (A : Ad) : WS := wSeq (wSet 4 (wCall 2 (ph__law_machine A) (wCons (wVar 0) (wCons (wVar 1) (wNil))))) (psi_law_t4 A)
def psi_law_t2 (A : Ad) : WS := wSeq (wSet 3 (wCall 3 (ph__law_draw A) (wCons (wVar 0) (wCons (wVar 1) (wCons (wC (.int 13)) (wNil)))))) (psi_law_t3 A)
def psi_law_t1 (A : Ad) : WS := wSeq (wSet 2 (wCall 3 (ph__law_pick A) (wCons (wVar 0) (wCons (wVar 1) (wCons (wLst false (wCons (wC (.int 3)) (wCons (wC (.int 61)) (wNil)))) (wNil)))))) (psi_law_t2 A)
def psi_law (A : Ad) : WS := wSeq (wSet 1 (wLst true (wNil))) (psi_law_t1 A)
end DL
end
section
set_option maxHeartbeats 0
namespace DL
open PySem
structure AdX (A : Ad) : Prop extends AdOk A
variable {A : Ad}
theorem dt__law_ask (hA : AdX A) : ∀ ds m R x, ph__law_ask A ds m R x → psi__law_ask A (startD 3 ds) m (endD R x) := by
  rintro ds m R x ⟨c, dead, dn, d, rfl, hM, hk, hno, hyes⟩
  simp [psi__law_ask]
  refine ⟨_, d, rfl, inMach.good hM ⟨hk, fun e => ?_, hyes⟩⟩
  simp [wh]; exact hno e
theorem sign_ok {c : Nat} (h : c ∈ (G_SIGNS ++ G_GREAT).cps.toList) : c < 128 ∧ c ≠ 32 ∧ (if 65 ≤ c ∧ c ≤ 90 then c + 32 else c) ∈ G_SIGNS.cps.toList := by
  have : ∀ c ∈ (G_SIGNS ++ G_GREAT).cps.toList, c < 128 ∧ c ≠ 32 ∧ (if 65 ≤ c ∧ c ≤ 90 then c + 32 else c) ∈ G_SIGNS.cps.toList := by decide +kernel
  exact this c h
theorem onK_G (n : Int) : ∀ k ∈ onK n, kyG k := by
  intro k hk
  unfold onK at hk
  rcases List.mem_append.mp hk with z | z
  · rw [List.eq_of_mem_replicate z]; trivial
  · rw [List.eq_of_mem_replicate z]; trivial
theorem key_G {c : Nat} (h : c ∈ (G_SIGNS ++ G_GREAT).cps.toList) : ∀ k ∈ keysK [c], kyG k := by
  intro k hk
  obtain ⟨_, h32, h1⟩ := sign_ok h
  have e : keysK [c] = keyK c := by simp [keysK]
  rw [e] at hk
  unfold keyK at hk
  rw [if_neg h32] at hk
  split at hk
  · rename_i hcap
    rw [if_pos hcap] at h1
    simp at hk
    rcases hk with e | e | e <;> subst e
    · trivial
    · exact h1
    · trivial
  · rename_i hcap
    rw [if_neg hcap] at h1
    simp at hk
    subst hk
    exact h1
theorem home_G (dn row : Int) : ∀ k ∈ homeK dn row, kyG k := by
  intro k hk
  unfold homeK at hk
  split at hk
  · rcases List.mem_append.mp hk with z | z
    · rw [List.eq_of_mem_replicate z]; trivial
    · simp at z; subst z; trivial
  · simp at hk; subst hk; trivial
theorem step_G {c dn row place : Int} {dead : List Nat} {red : Bool} {k : Mk} (hk : stOk c k) : ∀ j ∈ stepK dn dead row place red k, kyG j := by
  intro j hj
  unfold stepK at hj
  simp only at hj
  rcases List.mem_append.mp hj with z | z
  · rcases List.mem_append.mp z with z | z
    · rcases List.mem_append.mp z with z | z
      · split at z
        · exact home_G _ _ j z
        · simp at z
      · rcases List.mem_append.mp z with z | z
        · rcases List.mem_append.mp z with z | z
          · rw [List.eq_of_mem_replicate z]; trivial
          · rw [List.eq_of_mem_replicate z]; trivial
        · unfold ledK at z
          rcases List.mem_append.mp z with z | z
          · rw [List.eq_of_mem_replicate z]; trivial
          · exact onK_G _ j z
    · split at z
      · simp at z
      · simp at z; subst z; trivial
  · exact key_G hk.sg j z
theorem for_G {c dn : Int} {dead : List Nat} : ∀ (ks : List Mk) (row place : Int) (red : Bool), (∀ k ∈ ks, stOk c k) → ∀ j ∈ forK dn dead row place red ks, kyG j
  | [], _, _, _, _, j, hj => by simp [forK] at hj
  | k :: ks, row, place, red, h, j, hj => by
    simp only [forK] at hj
    rcases List.mem_append.mp hj with z | z
    · exact step_G (h k List.mem_cons_self) j z
    · exact for_G ks _ _ _ (fun i hi => h i (List.mem_cons_of_mem _ hi)) j z
theorem step_len2 {c dn row place : Int} {dead : List Nat} {red : Bool} {k : Mk} (hM : MOk c dead dn) (hk : stOk c k) (r0 : 0 ≤ row) (r1 : row ≤ 60) (p0 : 0 ≤ place) (p1 : place ≤ 2 * c) : (stepD dn dead row place red k).length ≤ 200 := by
  have hc := hM.hi
  have d2 := hM.d2
  have d4 := hM.d4
  obtain ⟨kr0, kr1, kp0, kp1, ksg⟩ := hk
  have hhl : ((homeK dn row).map kyD).length ≤ 10 := by
    unfold homeK; split <;> simp; omega
  have ll : ∀ q : Int, 0 ≤ q → q ≤ 2 * c → (ledD q k.place).length ≤ 90 := by
    intro q q0 q1
    simp only [ledD, onD, List.length_append, List.length_replicate, backs]; omega
  have kl := keysOf_len [k.sign]
  simp only [List.length_cons, List.length_nil] at kl
  have hr : (if k.red = red then [] else [k1 "ribbon"] : List D).length ≤ 1 := by split <;> simp
  have hh : homeR dn row ≤ 60 ∧ 0 ≤ homeR dn row := by unfold homeR; split <;> omega
  unfold stepD
  simp only
  split
  · have := ll 0 (by omega) (by omega)
    simp only [List.length_append, List.length_replicate]
    omega
  · have := ll place p0 p1
    simp only [List.length_append, List.length_replicate, List.length_nil]
    omega
theorem for_len {c dn : Int} {dead : List Nat} (hM : MOk c dead dn) : ∀ (ks : List Mk) (row place : Int) (red : Bool), (∀ k ∈ ks, stOk c k) → 0 ≤ row → row ≤ 60 → 0 ≤ place → place ≤ 2 * c → (forD dn dead row place red ks).length ≤ 200 * ks.length
  | [], _, _, _, _, _, _, _, _ => by simp [forD]
  | k :: ks, row, place, red, h, r0, r1, p0, p1 => by
    have hk := h k List.mem_cons_self
    have a := step_len2 (red := red) hM hk r0 r1 p0 p1
    have kp0 := hk.p0
    have kp1 := hk.p1
    have b := for_len hM ks k.row (if k.sign ∈ dead then k.place else k.place + 2) k.red (fun i hi => h i (List.mem_cons_of_mem _ hi)) hk.r0 hk.r1 (by split <;> omega) (by split <;> omega)
    simp only [forD, List.length_append, List.length_cons]; omega
theorem ref5 : D.tup [.str (PySem.Str.ofString "refused"), .int 5] = refD 5 := rfl
structure Sts (c : Int) (ms : List Mk) : Prop where
  nm : Num ms
  ok : ∀ k ∈ ms, stOk c k
  le : ms.length ≤ 12
theorem Sts.arg {c : Int} {ms : List Mk} (h : Sts c ms) {m : Store} {d : D} (hd : asL m d = some (ms.map mkB)) (ht : (tyN m d).isSome = true) : kArg m d := by
  refine ⟨ht, fun xs e => ?_⟩
  rw [hd] at e
  cases e
  have := h.le
  refine ⟨by simp; omega, fun w hw m' => ?_⟩
  obtain ⟨k, hk, rfl⟩ := List.mem_map.mp hw
  refine ⟨rfl, fun xs e => ?_⟩
  cases e
  intro w hw
  simp only [List.mem_cons, List.mem_nil_iff, or_false] at hw
  rcases hw with e | e | e | e <;> subst e
  · exact ⟨fun _ => rfl, fun t e => nomatch e⟩
  · exact ⟨fun _ => rfl, fun t e => nomatch e⟩
  · exact ⟨fun _ => rfl, fun t e => by cases e; show 1 ≤ 1000; decide⟩
  · cases k.red
    · exact ⟨fun _ => rfl, fun t e => by cases e; decide +kernel⟩
    · exact ⟨fun _ => rfl, fun t e => by cases e; decide +kernel⟩
theorem Sts.fa {c dn : Int} {dead : List Nat} {ms : List Mk} (h : Sts c ms) (hM : MOk c dead dn) : (∀ d ∈ (runL (newS c dead dn) (forK dn dead 0 0 false (sortM ms))).2, Good d) ∧ (sortM (runL (newS c dead dn) (forK dn dead 0 0 false (sortM ms))).1.marks).map mkB = (sortM ms).map mkB ∧ (runL (newS c dead dn) (forK dn dead 0 0 false (sortM ms))).1.marks.length = (sortM ms).length :=
  for_all hM (fun k hk => by
    have h1 := h.ok k ((sortM_perm ms).mem_iff.mp hk)
    have h2 := sign_ok h1.sg
    exact ⟨h1, h2.1, h2.2.1⟩) (sortM_le ms)
theorem Sts.sok {c : Int} {ms : List Mk} (h : Sts c ms) : ∀ k ∈ sortM ms, stOk c k := fun k hk => h.ok k ((sortM_perm ms).mem_iff.mp hk)
theorem Sts.kg {c dn : Int} {dead : List Nat} {ms : List Mk} (h : Sts c ms) : ∀ j ∈ forK dn dead 0 0 false (sortM ms), kyG j := for_G _ _ _ _ h.sok
theorem Sts.kl {c dn : Int} {dead : List Nat} {ms : List Mk} (h : Sts c ms) (hM : MOk c dead dn) : (forK dn dead 0 0 false (sortM ms)).length ≤ 2400 := by
  have hc := hM.lo
  have := for_len hM (sortM ms) 0 0 false h.sok (by omega) (by omega) (by omega) (by omega)
  have e : (sortM ms).length = ms.length := (sortM_perm ms).length_eq
  have := h.le
  have e2 : (forK dn dead 0 0 false (sortM ms)).length = (forD dn dead 0 0 false (sortM ms)).length := by rw [← forK_D]; simp
  omega
theorem Sts.dk {c : Int} {ms : List Mk} (h : Sts c ms) : dOk (.lst ((sortM ms).map mkB)) 60 = true := by
  rw [dOk]
  exact doks_all fun d hd => by
    obtain ⟨k, hk, rfl⟩ := List.mem_map.mp hd
    exact ok_mkB k 58 (sign_ok (h.sok k hk).sg).1
def simpB : D → Bool
  | .int _ => true
  | .non => true
  | .bl _ => true
  | .str t => decide (t.length ≤ 1000)
  | _ => false
theorem sArg_t {xs : List D} (h : xs.all simpB = true) : ∀ m', sArg m' (.tup xs) := by
  intro m'
  refine ⟨rfl, fun ys e w hw => ?_⟩
  cases e
  have := List.all_eq_true.mp h w hw
  cases w <;> simp [simpB] at this
  · exact ⟨fun _ => rfl, fun t e => nomatch e⟩
  · exact ⟨fun _ => rfl, fun t e => nomatch e⟩
  · exact ⟨fun _ => rfl, fun t e => nomatch e⟩
  · exact ⟨fun _ => rfl, fun t e => by cases e; exact this⟩
structure NoS (c : Int) (d : D) : Prop where
  arg : ∀ m, kArg m d
  no : ∀ m, strikesB c m d = false
theorem no_lst {c : Int} {d : D} (h : strikeB c d = false) (ha : ∀ m', sArg m' d) : NoS c (.lst [d]) := by
  refine ⟨fun m => ⟨rfl, fun xs e => ?_⟩, fun m => ?_⟩
  · simp [asL] at e; subst e; exact ⟨by simp, fun w hw m' => by simp at hw; subst hw; exact ha m'⟩
  · simp [strikesB, asL, h]
theorem sB_a {c : Int} {a b s w : D} (h : wholeB a 0 60 = false) : strikeB c (.tup [a, b, s, w]) = false := by simp [strikeB, h]
theorem sB_b {c : Int} {a b s w : D} (h : wholeB b 0 (2 * c - 2) = false) : strikeB c (.tup [a, b, s, w]) = false := by simp [strikeB, h]
theorem sB_s {c : Int} {a b s w : D} (h : oneOfB s (G_SIGNS ++ G_GREAT) = false) : strikeB c (.tup [a, b, s, w]) = false := by simp [strikeB, h]
theorem sB_w {c : Int} {a b s w : D} (h : colB w = false) : strikeB c (.tup [a, b, s, w]) = false := by simp [strikeB, h]
theorem mkB_inj {a b : Mk} (h : mkB a = mkB b) (hn : a.n = b.n) : a = b := by
  cases a with
  | mk n1 r1 p1 s1 c1 => cases b with
    | mk n2 r2 p2 s2 c2 =>
      simp only [mkB, D.tup.injEq, List.cons.injEq, D.int.injEq, and_true] at h hn
      obtain ⟨h1, h2, h3, h4⟩ := h
      simp at h3
      have : c1 = c2 := by cases c1 <;> cases c2 <;> simp [colD, wordD] at h4 <;> rfl
      subst hn h1 h2 h3 this
      rfl
theorem num_uniq {ms ns : List Mk} (h1 : Num ms) (h2 : Num ns) (e : ms.map mkB = ns.map mkB) : ms = ns := by
  have hl : ms.length = ns.length := by rw [← List.length_map (f := mkB), e, List.length_map]
  refine List.ext_getElem hl fun i hi hj => ?_
  have : (ms.map mkB)[i]? = (ns.map mkB)[i]? := by rw [e]
  simp only [List.getElem?_map, List.getElem?_eq_getElem hi, List.getElem?_eq_getElem hj, Option.map_some, Option.some.injEq] at this
  exact mkB_inj this (by rw [h1 i _ (List.getElem?_eq_getElem hi), h2 i _ (List.getElem?_eq_getElem hj)])
theorem st_yes {c : Int} {k : Mk} (h : stOk c k) : strikeB c (mkB k) = true := by
  obtain ⟨r0, r1, p0, p1, sg⟩ := h
  have e1 : colB (colD k.red) = true := by cases k.red <;> decide +kernel
  have e2 : oneOfB (ch k.sign) (G_SIGNS ++ G_GREAT) = true := decide_eq_true sg
  simp only [mkB, strikeB, wholeB, e1, e2, Bool.and_true, decide_eq_true r0, decide_eq_true r1, decide_eq_true p0, decide_eq_true p1]
theorem Sts.ask {c dn : Int} {dead : List Nat} {ms : List Mk} (h : Sts c ms) (hM : MOk c dead dn) {m : Store} {d : D} (hd : asL m d = some (ms.map mkB)) (ht : (tyN m d).isSome = true) {R : KD} {x : XD} (hR : R (.tup ((forK dn dead 0 0 false (sortM ms)).map kyD)) m) : ph__law_ask A [machD c dead dn, d] m R x := by
  have hle := h.le
  refine ⟨c, dead, dn, d, rfl, hM, h.arg hd ht, fun e => ?_, fun ms' hd' hn' _ _ => ?_⟩
  · have : strikesB c m d = true := by
      simp only [strikesB, hd, List.length_map, decide_eq_true (show ms.length ≤ 60 by omega), Bool.true_and]
      rw [List.all_eq_true]
      intro w hw
      obtain ⟨k, hk, rfl⟩ := List.mem_map.mp hw
      exact st_yes (h.ok k hk)
    rw [this] at e; cases e
  · rw [hd] at hd'
    have := num_uniq h.nm hn' (by simpa using hd')
    subst this
    rw [← forK_D]; exact hR
section
variable {ns : List Int} {t : Addr} {c dn : Int} {dead : List Nat} {ms : List Mk} {us : List D} {m : Store} {R : KD} {x : XD}
theorem tail18 (hA : AdX A) (h : ∀ m', R (.bl true) m') (hM : MOk c dead dn) {v0 v1 v2 v3 v6 v7 v8 v9 v10 v11 v12 v13 v14 v15 v16 v17 v18 v19 : Option D} :
    psi_law_t18 A [v0, v1, v2, v3, some (machD c dead dn), some (.int (2 * c)), v6, v7, v8, v9, v10, v11, v12, v13, v14, v15, v16, v17, v18, v19] m (endD R x) := by
  have L : LIM = 16777216 := rfl
  have hc := hM.lo
  simp only [psi_law_t18, psi_law_t19, wSub, e_revL, s_seq, s_if, s_set, s_ret, s_retN, s_next, s_exp, s_asg, s_for, s_par, s_raise, e_test, e_not, e_and, e_or, e_andV, e_orV, e_notV, e_op, e_un, e_if, e_call, e_callB, e_cons, e_nil, e_tup, e_lst, e_nwF, e_c, e_var, e_sl, e_oSome, e_oNone, e_chain, e_lc, e_seqI, e_mt, e_frz, e_fgt, g_nm, g_tp, putAllS, putAll0, wipeS, wipe0, getS, get0, putS, put0, ok_some]
  refine ⟨by show 4 ≤ LIM; decide, by show 4 ≤ LIM; decide, by show 4 ≤ LIM; decide, by show 3 ≤ LIM; decide, ?_⟩
  have hS : Sts c [⟨0, 60, 2 * c - 2, 122, true⟩, ⟨1, 60, 0, 98, true⟩, ⟨2, 59, 1, 97, false⟩] := by
    refine ⟨fun i k hik => ?_, fun k hk => ?_, by simp⟩
    · match i with
      | 0 => simp at hik; subst hik; rfl
      | 1 => simp at hik; subst hik; rfl
      | 2 => simp at hik; subst hik; rfl
      | i + 3 => simp at hik
    · simp only [List.mem_cons, List.mem_nil_iff, or_false] at hk
      rcases hk with e | e | e <;> subst e
      · exact ⟨by show (0 : Int) ≤ 60; decide, by show (60 : Int) ≤ 60; decide, by show 0 ≤ 2 * c - 2; omega, Int.le_refl _, by show 122 ∈ (G_SIGNS ++ G_GREAT).cps.toList; decide +kernel⟩
      · exact ⟨by decide, by decide, by decide, by show 0 ≤ 2 * c - 2; omega, by decide +kernel⟩
      · exact ⟨by decide, by decide, by decide, by show 1 ≤ 2 * c - 2; omega, by decide +kernel⟩
  have es : sortM [⟨0, 60, 2 * c - 2, 122, true⟩, ⟨1, 60, 0, 98, true⟩, ⟨2, 59, 1, 97, false⟩] = [⟨2, 59, 1, 97, false⟩, ⟨1, 60, 0, 98, true⟩, ⟨0, 60, 2 * c - 2, 122, true⟩] := by
    refine (sortM_is ?_ (List.reverse_perm _) ?_).symm
    · simp
    · simp [mkLt]; omega
  have ea : PySem.Str.ofString "a" = (⟨#[97]⟩ : Str) := by decide +kernel
  have eb : PySem.Str.ofString "b" = (⟨#[98]⟩ : Str) := by decide +kernel
  have ez : PySem.Str.ofString "z" = (⟨#[122]⟩ : Str) := by decide +kernel
  have el : ([⟨2, 59, 1, 97, false⟩, ⟨1, 60, 0, 98, true⟩, ⟨0, 60, 2 * c - 2, 122, true⟩] : List Mk).map mkB = [D.tup [.int 59, .int 1, .str (PySem.Str.ofString "a"), .str (PySem.Str.ofString "black")], D.tup [.int 60, .int 0, .str (PySem.Str.ofString "b"), .str (PySem.Str.ofString "red")], D.tup [.int 60, .int (2 * c - 2), .str (PySem.Str.ofString "z"), .str (PySem.Str.ofString "red")]] := by
    rw [ea, eb, ez]; rfl
  rw [← el]
  refine ⟨rfl, hS.ask hM rfl rfl ?_⟩
  refine ⟨rfl, _, _, rfl, inBoth.good hM hS.kg (by have := hS.kl hM; omega) ?_⟩
  have fa := (hS.fa hM).2.1
  unfold marksS
  rw [fa, es]
  have dk := hS.dk
  rw [es] at dk
  exact eq_of rfl dk (h m)
theorem no_tup {xs : List D} : NoS c (.tup xs) := ⟨fun m => ⟨rfl, fun _ e => by simp [asL] at e⟩, fun m => rfl⟩
theorem tail14 (hA : AdX A) (h : ∀ m', R (.bl true) m') (hm : m t = some (.lst us)) (hu : us.length ≤ 1000) (hM : MOk c dead dn) {sa : Addr} {xs : List D} (hsa : m sa = some (.lst xs)) {v2 v3 v7 v8 v9 v10 v11 v12 v13 v14 v15 v16 v17 v18 v19 : Option D} :
    psi_law_t14 A [some (.scr ns), some (.ref t), v2, v3, some (machD c dead dn), some (.int (2 * c)), some (.ref sa), v7, v8, v9, v10, v11, v12, v13, v14, v15, v16, v17, v18, v19] m (endD R x) := by
  have L : LIM = 16777216 := rfl
  have hc := hM.lo
  have ht : ∀ K : KD, wTuple [.ref sa] m K = K (.tup xs) m := fun K => by simp [wTuple, asQ, asL, hsa]
  simp only [psi_law_t14, wSub, e_nwT, ht, s_seq, s_if, s_set, s_ret, s_retN, s_next, s_exp, s_asg, s_for, s_par, s_raise, e_test, e_not, e_and, e_or, e_andV, e_orV, e_notV, e_op, e_un, e_if, e_call, e_callB, e_cons, e_nil, e_tup, e_lst, e_nwF, e_c, e_var, e_sl, e_oSome, e_oNone, e_chain, e_lc, e_seqI, e_mt, e_frz, e_fgt, g_nm, g_tp, putAllS, putAll0, wipeS, wipe0, getS, get0, putS, put0, ok_some]
  refine ⟨by show 1 ≤ LIM; decide, by show 3 ≤ LIM; decide, by show 1 ≤ LIM; decide, by show 4 ≤ LIM; decide, by show 1 ≤ LIM; decide, by show 4 ≤ LIM; decide, by show 1 ≤ LIM; decide, by show 6 ≤ LIM; decide, fun ba nba => ?_⟩
  have hne : t ≠ ba := by rintro rfl; rw [nba] at hm; cases hm
  have n1 : NoS c .non := ⟨fun m => ⟨rfl, fun _ e => by simp [asL] at e⟩, fun m => rfl⟩
  have B1 : ∀ d ∈ [D.non, .tup xs, .lst [.non], .lst [.tup [.int 0, .int 0, .str (PySem.Str.ofString "a")]], .lst [.tup [.int 0, .int (2 * c - 1), .str (PySem.Str.ofString "a"), .str (PySem.Str.ofString "red")]], .lst [.tup [.int 61, .int 0, .str (PySem.Str.ofString "a"), .str (PySem.Str.ofString "red")]]], NoS c d := by
    intro d hd
    simp only [List.mem_cons, List.mem_nil_iff, or_false] at hd
    rcases hd with e | e | e | e | e | e <;> subst e
    · exact n1
    · exact no_tup
    · exact no_lst rfl fun m' => ⟨rfl, fun xs e => nomatch e⟩
    · exact no_lst rfl (sArg_t (by decide +kernel))
    · exact no_lst (sB_b (by simp [wholeB])) (sArg_t (by simp only [List.all_cons, simpB]; decide +kernel))
    · exact no_lst (sB_a (by decide)) (sArg_t (by decide +kernel))
  generalize hb1 : [D.non, .tup xs, .lst [.non], .lst [.tup [.int 0, .int 0, .str (PySem.Str.ofString "a")]], .lst [.tup [.int 0, .int (2 * c - 1), .str (PySem.Str.ofString "a"), .str (PySem.Str.ofString "red")]], .lst [.tup [.int 61, .int 0, .str (PySem.Str.ofString "a"), .str (PySem.Str.ofString "red")]]] = b1 at B1 ⊢
  have l1 : b1.length = 6 := by rw [← hb1]; rfl
  clear hb1
  simp only [psi_law_t15, tyM, sup_same, wNeg, s_seq, s_if, s_set, s_ret, s_retN, s_next, s_exp, s_asg, s_for, s_par, s_raise, e_test, e_not, e_and, e_or, e_andV, e_orV, e_notV, e_op, e_un, e_if, e_call, e_callB, e_cons, e_nil, e_tup, e_lst, e_nwF, e_c, e_var, e_sl, e_oSome, e_oNone, e_chain, e_lc, e_seqI, e_mt, e_frz, e_fgt, g_nm, g_tp, putAllS, putAll0, wipeS, wipe0, getS, get0, putS, put0, ok_some]
  have B2 : ∀ d ∈ [D.lst [.tup [.int 0, .int 0, .str (PySem.Str.ofString "a"), .str (PySem.Str.ofString "blue")]], .lst [.lst [.int 0, .int 0, .str (PySem.Str.ofString "a"), .str (PySem.Str.ofString "red")]], .lst [.tup [.int (-1), .int 0, .str (PySem.Str.ofString "a"), .str (PySem.Str.ofString "red")]], .lst [.tup [.int 0, .bl true, .str (PySem.Str.ofString "a"), .str (PySem.Str.ofString "red")]]], NoS c d := by
    intro d hd
    simp only [List.mem_cons, List.mem_nil_iff, or_false] at hd
    rcases hd with e | e | e | e <;> subst e
    · exact no_lst (sB_w (by decide +kernel)) (sArg_t (by decide +kernel))
    · exact no_lst rfl fun m' => ⟨rfl, fun xs e => nomatch e⟩
    · exact no_lst (sB_a (by decide)) (sArg_t (by decide +kernel))
    · exact no_lst (sB_b rfl) (sArg_t (by decide +kernel))
  refine ⟨trivial, by show 4 ≤ LIM; decide, by show 1 ≤ LIM; decide, by show 4 ≤ LIM; decide, by show 1 ≤ LIM; decide, by show 4 ≤ LIM; decide, by show 1 ≤ LIM; decide, by show 4 ≤ LIM; decide, by show 1 ≤ LIM; decide, by show 4 ≤ LIM; decide, ?_⟩
  generalize hb2 : [D.lst [.tup [.int 0, .int 0, .str (PySem.Str.ofString "a"), .str (PySem.Str.ofString "blue")]], .lst [.lst [.int 0, .int 0, .str (PySem.Str.ofString "a"), .str (PySem.Str.ofString "red")]], .lst [.tup [.int (-1), .int 0, .str (PySem.Str.ofString "a"), .str (PySem.Str.ofString "red")]], .lst [.tup [.int 0, .bl true, .str (PySem.Str.ofString "a"), .str (PySem.Str.ofString "red")]]] = b2 at B2 ⊢
  have l2 : b2.length = 4 := by rw [← hb2]; rfl
  clear hb2
  refine ⟨_, _, sup_same, rfl, by omega, ?_⟩
  rw [sup_sup]
  have hbs : (sup m ba (.lst (b1 ++ b2))) ba = some (.lst (b1 ++ b2)) := sup_same
  simp only [psi_law_t16, tyM, sup_same, wMul, asL, repD_one, s_seq, s_if, s_set, s_ret, s_retN, s_next, s_exp, s_asg, s_for, s_par, s_raise, e_test, e_not, e_and, e_or, e_andV, e_orV, e_notV, e_op, e_un, e_if, e_call, e_callB, e_cons, e_nil, e_tup, e_lst, e_nwF, e_c, e_var, e_sl, e_oSome, e_oNone, e_chain, e_lc, e_seqI, e_mt, e_frz, e_fgt, g_nm, g_tp, putAllS, putAll0, wipeS, wipe0, getS, get0, putS, put0, ok_some]
  have B3 : ∀ d ∈ [D.lst [.tup [.int 0, .int 0, .str (PySem.Str.ofString "ab"), .str (PySem.Str.ofString "red")]], .lst (List.replicate (Int.toNat 61) (.tup [.int 0, .int 0, .str (PySem.Str.ofString "a"), .str (PySem.Str.ofString "red")])), .lst [.tup [.int 0, .int 0, .non, .str (PySem.Str.ofString "red")]], .lst [.tup [.int 0, .int 0, .str (PySem.Str.ofString "a"), .non]]], NoS c d := by
    intro d hd
    simp only [List.mem_cons, List.mem_nil_iff, or_false] at hd
    rcases hd with e | e | e | e <;> subst e
    · exact no_lst (sB_s (by decide +kernel)) (sArg_t (by decide +kernel))
    · refine ⟨fun m => ⟨rfl, fun ys e => ?_⟩, fun m => ?_⟩
      · simp only [asL, Option.some.injEq] at e
        subst e
        refine ⟨by simp, fun w hw m' => ?_⟩
        rw [List.eq_of_mem_replicate hw]
        exact sArg_t (by decide +kernel) m'
      · have : ¬ (List.replicate (Int.toNat 61) (D.tup [.int 0, .int 0, .str (PySem.Str.ofString "a"), .str (PySem.Str.ofString "red")])).length ≤ 60 := by simp
        simp only [strikesB, asL, decide_eq_false this, Bool.false_and]
    · exact no_lst (sB_s rfl) (sArg_t (by decide +kernel))
    · exact no_lst (sB_w rfl) (sArg_t (by decide +kernel))
  refine ⟨trivial, by show 4 ≤ LIM; decide, by show 1 ≤ LIM; decide, by show 4 ≤ LIM; decide, by show 1 ≤ LIM; decide, _, rfl, by decide, by decide, by show 1 * 61 ≤ LIM; decide, ?_⟩
  rw [repD_one]
  refine ⟨by show 4 ≤ LIM; decide, by show 1 ≤ LIM; decide, by show 4 ≤ LIM; decide, by show 1 ≤ LIM; decide, by show 4 ≤ LIM; decide, ?_⟩
  generalize hb3 : [D.lst [.tup [.int 0, .int 0, .str (PySem.Str.ofString "ab"), .str (PySem.Str.ofString "red")]], .lst (List.replicate (Int.toNat 61) (.tup [.int 0, .int 0, .str (PySem.Str.ofString "a"), .str (PySem.Str.ofString "red")])), .lst [.tup [.int 0, .int 0, .non, .str (PySem.Str.ofString "red")]], .lst [.tup [.int 0, .int 0, .str (PySem.Str.ofString "a"), .non]]] = b3 at B3 ⊢
  have l3 : b3.length = 4 := by rw [← hb3]; rfl
  clear hb3
  refine ⟨_, _, sup_same, rfl, by simp; omega, ?_⟩
  rw [sup_sup]
  simp only [psi_law_t17, ref5, s_seq, s_if, s_set, s_ret, s_retN, s_next, s_exp, s_asg, s_for, s_par, s_raise, e_test, e_not, e_and, e_or, e_andV, e_orV, e_notV, e_op, e_un, e_if, e_call, e_callB, e_cons, e_nil, e_tup, e_lst, e_nwF, e_c, e_var, e_sl, e_oSome, e_oNone, e_chain, e_lc, e_seqI, e_mt, e_frz, e_fgt, g_nm, g_tp, putAllS, putAll0, wipeS, wipe0, getS, get0, putS, put0, ok_some]
  refine ⟨by show 4 ≤ LIM; decide, by show 1 ≤ LIM; decide, by show 1 ≤ LIM; decide, ?_⟩
  refine ⟨b1 ++ b2 ++ b3, _, by simp only [asL, sup_same], rfl, by simp; omega, ?_⟩
  refine ⟨rfl, ns, t, _, us, rfl, by rw [sup_ne hne]; exact hm, by omega, by simp, fun d us2 hd hu2 => ?_⟩
  have hN : NoS c d := by
    rcases List.mem_append.mp hd with z | z
    · rcases List.mem_append.mp z with z | z
      · rcases List.mem_append.mp z with z | z
        · exact B1 d z
        · exact B2 d z
      · exact B3 d z
    · simp only [List.mem_cons, List.mem_nil_iff, or_false] at z
      subst z
      exact no_lst (sB_s (by decide +kernel)) (sArg_t (by decide +kernel))
  refine ⟨rfl, c, dead, dn, d, rfl, hM, hN.arg _, fun _ => ?_, fun ms' hd' hn' hk' hl' => ?_⟩
  · refine ⟨by decide, ?_⟩
    refine ne_ref ?_
    simp only [Bool.false_eq_true, if_false, s_next]
    exact tail18 hA h hM
  · have e := hN.no (sup (sup m ba (.lst (b1 ++ b2 ++ b3))) t (.lst us2))
    have : strikesB c (sup (sup m ba (.lst (b1 ++ b2 ++ b3))) t (.lst us2)) d = true := by
      simp only [strikesB, hd', List.length_map, decide_eq_true hl', Bool.true_and]
      rw [List.all_eq_true]
      intro w hw
      obtain ⟨k, hk, rfl⟩ := List.mem_map.mp hw
      exact st_yes (hk' k hk)
    rw [this] at e; cases e
theorem lc_trip2 {G : Store → Prop} {v0 v1 v2 v3 v4 v5 v6 v7 v8 v9 v10 v11 v12 v13 v14 v15 v16 v17 v18 v19 : Option D} (hG : G m) : ∀ (ms : List Mk) (n : Nat) (acc : List D) (K : List D → Store → Prop), (∀ (i : Nat) (k : Mk), ms[i]? = some k → k.n = ((n + i : Nat) : Int)) → acc.length + ms.length ≤ LIM → K (acc ++ ms.map trip) m →
    wLcL G [7, 17] (gTp [7, 17]) (wYes) (wTup (wCons (wOp wIx (wVar 17) (wC (.int 0))) (wCons (wOp wIx (wVar 17) (wC (.int 1))) (wCons (wVar 7) (wNil))))) [v0, v1, v2, v3, v4, v5, v6, v7, v8, v9, v10, v11, v12, v13, v14, v15, v16, v17, v18, v19] (enumD n (ms.map mkB)) acc m K
  | [], n, acc, K, _, _, h => ⟨hG, by simpa using h⟩
  | k :: ms, n, acc, K, hn, hl, h => by
    simp only [List.length_cons] at hl
    simp only [List.map_cons, enumD]
    refine ⟨hG, ?_⟩
    have i0 : ∀ (m : Store) (K : KD), wIx (mkB k) (.int 0) m K = K (.int k.row) m := fun _ _ => rfl
    have i1 : ∀ (m : Store) (K : KD), wIx (mkB k) (.int 1) m K = K (.int k.place) m := fun _ _ => rfl
    simp only [e_yes, if_true, i0, i1, s_seq, s_if, s_set, s_ret, s_retN, s_next, s_exp, s_asg, s_for, s_par, s_raise, e_test, e_not, e_and, e_or, e_andV, e_orV, e_notV, e_op, e_un, e_if, e_call, e_callB, e_cons, e_nil, e_tup, e_lst, e_nwF, e_c, e_var, e_sl, e_oSome, e_oNone, e_chain, e_lc, e_seqI, e_mt, e_frz, e_fgt, g_nm, g_tp, putAllS, putAll0, wipeS, wipe0, getS, get0, putS, put0, ok_some]
    have e : (.int (n : Int) : D) = .int k.n := by have := hn 0 k rfl; rw [this]; rfl
    refine ⟨rfl, by show 3 ≤ LIM; decide, by omega, ?_⟩
    rw [e]
    refine lc_trip2 hG ms (n + 1) _ K (fun i j hij => ?_) (by simp; omega) (by simpa [trip] using h)
    have := hn (i + 1) j (by simpa using hij)
    rw [this]; omega
theorem lc_pickS {G : Store → Prop} {d : D} {v0 v1 v2 v3 v4 v5 v7 v8 v9 v10 v11 v12 v13 v14 v15 v16 v17 v18 v19 : Option D} (hG : G m) : ∀ (ks : List Mk) (acc : List D) (K : List D → Store → Prop), (∀ k ∈ ks, ∀ K : KD, wIx d (.int k.n) m K = K (mkB k) m) → acc.length + ks.length ≤ LIM → K (acc ++ ks.map mkB) m →
    wLcL G [18, 8, 7] (gTp [18, 8, 7]) (wYes) (wOp wIx (wVar 6) (wVar 7)) [v0, v1, v2, v3, v4, v5, some d, v7, v8, v9, v10, v11, v12, v13, v14, v15, v16, v17, v18, v19] (ks.map trip) acc m K
  | [], acc, K, _, _, h => ⟨hG, by simpa using h⟩
  | k :: ks, acc, K, hn, hl, h => by
    simp only [List.length_cons] at hl
    simp only [List.map_cons, trip]
    refine ⟨hG, ?_⟩
    simp only [e_yes, if_true, hn k List.mem_cons_self, s_seq, s_if, s_set, s_ret, s_retN, s_next, s_exp, s_asg, s_for, s_par, s_raise, e_test, e_not, e_and, e_or, e_andV, e_orV, e_notV, e_op, e_un, e_if, e_call, e_callB, e_cons, e_nil, e_tup, e_lst, e_nwF, e_c, e_var, e_sl, e_oSome, e_oNone, e_chain, e_lc, e_seqI, e_mt, e_frz, e_fgt, g_nm, g_tp, putAllS, putAll0, wipeS, wipe0, getS, get0, putS, put0, ok_some]
    exact ⟨rfl, by omega, lc_pickS hG ks _ K (fun j hj => hn j (List.mem_cons_of_mem _ hj)) (by simp; omega) (by simpa using h)⟩
theorem tail7 (hA : AdX A) (h : ∀ m', R (.bl true) m') (hm : m t = some (.lst us)) (hu : us.length ≤ 1000) (hM : MOk c dead dn) {sa : Addr} (hS : Sts c ms) (hsa : m sa = some (.lst (ms.map mkB))) {v2 v3 v7 v8 v9 v10 v11 v12 v13 v14 v15 v16 v17 v18 v19 : Option D} :
    psi_law_t7 A [some (.scr ns), some (.ref t), v2, v3, some (machD c dead dn), some (.int (2 * c)), some (.ref sa), v7, v8, v9, v10, v11, v12, v13, v14, v15, v16, v17, v18, v19] m (endD R x) := by
  have L : LIM = 16777216 := rfl
  have hle := hS.le
  obtain ⟨hgood, hmk, hmkl⟩ := hS.fa hM (dn := dn) (dead := dead)
  have hsl : (sortM ms).length = ms.length := (sortM_perm ms).length_eq
  have hok : (runL (newS c dead dn) (forK dn dead 0 0 false (sortM ms))).1.ok := ok_run (new_ok hM)
  have hn := hok.mn
  have hkl := hS.kl hM (dn := dn) (dead := dead)
  have hkg := hS.kg (dn := dn) (dead := dead)
  have hsm := run_sm (fun k hk => kyG_ok (hkg k hk)) (new_sm c dead dn)
  have dk := hS.dk
  simp only [psi_law_t7, s_seq, s_if, s_set, s_ret, s_retN, s_next, s_exp, s_asg, s_for, s_par, s_raise, e_test, e_not, e_and, e_or, e_andV, e_orV, e_notV, e_op, e_un, e_if, e_call, e_callB, e_cons, e_nil, e_tup, e_lst, e_nwF, e_c, e_var, e_sl, e_oSome, e_oNone, e_chain, e_lc, e_seqI, e_mt, e_frz, e_fgt, g_nm, g_tp, putAllS, putAll0, wipeS, wipe0, getS, get0, putS, put0, ok_some]
  refine ⟨rfl, hS.ask hM (by simp [asL, hsa]) (by simp [tyN, hsa]) ?_⟩
  have hty : ∀ (m : Store) (K : KD), wIsi [.tup ((forK dn dead 0 0 false (sortM ms)).map kyD), .ty "tuple"] m K = K (.bl true) m := fun m K => by simp [wIsi, tyN, isiN]
  simp only [psi_law_t8, hty, Bool.not_true, Bool.false_eq_true, if_false, psi_law_t9, s_seq, s_if, s_set, s_ret, s_retN, s_next, s_exp, s_asg, s_for, s_par, s_raise, e_test, e_not, e_and, e_or, e_andV, e_orV, e_notV, e_op, e_un, e_if, e_call, e_callB, e_cons, e_nil, e_tup, e_lst, e_nwF, e_c, e_var, e_sl, e_oSome, e_oNone, e_chain, e_lc, e_seqI, e_mt, e_frz, e_fgt, g_nm, g_tp, putAllS, putAll0, wipeS, wipe0, getS, get0, putS, put0, ok_some]
  refine ⟨by decide, rfl, c, dead, dn, [], _, false, rfl, hM, fun k hk => kyG_ok (hkg k hk), by simp only [List.length_nil]; omega, fun w m' hW => ?_⟩
  have hnew : newL c dead dn [] = newS c dead dn := rfl
  rw [hnew] at hW ⊢
  have hW' := hW
  obtain ⟨ta, ma, ra, W⟩ := hW'
  have hm' := W.sub _ _ hm
  have hsa' := W.sub _ _ hsa
  have hstr : ∀ (m : Store) (R : KD) (x : XD), R (.lst ((sortM ms).map mkB)) m → ph_strikes A [machD c dead dn, .tup ((forK dn dead 0 0 false (sortM ms)).map kyD)] m R x := by
    intro m R x hR
    refine ⟨_, _, rfl, inBoth.good hM hkg (by omega) ?_⟩
    unfold marksS
    rw [hmk]; exact hR
  generalize (runL (newS c dead dn) (forK dn dead 0 0 false (sortM ms))).2 = T at *
  generalize (runL (newS c dead dn) (forK dn dead 0 0 false (sortM ms))).1 = S at *
  have eL : inD (.tup [.str (PySem.Str.ofString "locked")]) T = false := by
    unfold inD
    rw [List.any_eq_false]
    intro d hd
    have := (hgood d hd).2
    simp only [lockD, wordD] at this
    rw [this]; decide
  simp only [psi_law_t10, List.length_cons, List.length_nil, true_and, s_seq, s_if, s_set, s_ret, s_retN, s_next, s_exp, s_asg, s_for, s_par, s_raise, e_test, e_not, e_and, e_or, e_andV, e_orV, e_notV, e_op, e_un, e_if, e_call, e_callB, e_cons, e_nil, e_tup, e_lst, e_nwF, e_c, e_var, e_sl, e_oSome, e_oNone, e_chain, e_lc, e_seqI, e_mt, e_frz, e_fgt, g_nm, g_tp, putAllS, putAll0, wipeS, wipe0, getS, get0, putS, put0, ok_some]
  refine ⟨by show 1 ≤ LIM; decide, T, rfl, .inr ⟨by decide +kernel, doks_all fun d hd => (hgood d hd).1⟩, ?_⟩
  rw [eL]
  simp only [Bool.false_eq_true, if_false]
  have hasL : asL m' (.ref sa) = some (ms.map mkB) := by simp [asL, hsa']
  simp only [psi_law_t11, s_next, s_seq, s_set, e_callB, e_cons, e_nil, e_lc]
  refine seq_enum hasL (fun K => rfl) _ ?_
  refine lc_trip2 (keep_ok hasL) ms 0 [] _ (fun i k hik => by have := hS.nm i k hik; simpa using this) (by simp; omega) ?_
  rw [List.nil_append]
  simp only [e_nwF]
  refine sort_by trip mkLt ms rfl (fun k _ => rfl) (fun a _ b _ => rfl) (.inl fun d hd => ?_) (fun a _ b _ => trip_lt hA.toAdOk a b) fun ys hp hs => ?_
  · obtain ⟨k, _, rfl⟩ := List.mem_map.mp hd; exact ⟨_, _, rfl⟩
  have ey := sortM_is (num_pw hA.toAdOk hS.nm) hp hs
  subst ey
  have hix : ∀ k ∈ sortM ms, ∀ K : KD, wIx (.ref sa) (.int k.n) m' K = K (mkB k) m' := by
    intro k hk K
    obtain ⟨i, hi, e⟩ := List.getElem_of_mem ((sortM_perm ms).mem_iff.mp hk)
    have e4 : ms[i]? = some k := by rw [List.getElem?_eq_getElem hi, e]
    rw [hS.nm i k e4]
    exact seq_ix hasL (by simp [e4]) K
  simp only [e_nwF, psi_law_t12, s_seq, s_set, e_lc, e_seqI, e_var, getS, get0, putS, put0, ok_some, asI]
  refine lc_pickS trivial (sortM ms) [] _ hix (by simp; omega) ?_
  rw [List.nil_append]
  simp only [psi_law_t13, s_seq, s_if, s_set, s_ret, s_retN, s_next, s_exp, s_asg, s_for, s_par, s_raise, e_test, e_not, e_and, e_or, e_andV, e_orV, e_notV, e_op, e_un, e_if, e_call, e_callB, e_cons, e_nil, e_tup, e_lst, e_nwF, e_c, e_var, e_sl, e_oSome, e_oNone, e_chain, e_lc, e_seqI, e_mt, e_frz, e_fgt, g_nm, g_tp, putAllS, putAll0, wipeS, wipe0, getS, get0, putS, put0, ok_some]
  refine ⟨rfl, w, m, S, rfl, hW, hn, hsm.g, by omega, ?_⟩
  simp only [asI]
  refine lc_map (G := fun _ => True) mkD mkB trivial (sortM S.marks) [] _ (by have : (sortM S.marks).length = S.marks.length := (sortM_perm _).length_eq; simp; omega) (fun k hk K1 hK => ?_) ?_
  · simp only [cut_mk, s_seq, s_if, s_set, s_ret, s_retN, s_next, s_exp, s_asg, s_for, s_par, s_raise, e_test, e_not, e_and, e_or, e_andV, e_orV, e_notV, e_op, e_un, e_if, e_call, e_callB, e_cons, e_nil, e_tup, e_lst, e_nwF, e_c, e_var, e_sl, e_oSome, e_oNone, e_chain, e_lc, e_seqI, e_mt, e_frz, e_fgt, g_nm, g_tp, putAllS, putAll0, wipeS, wipe0, getS, get0, putS, put0, ok_some]
    exact hK
  rw [List.nil_append, hmk]
  refine ne_of rfl dk ?_
  simp only [Bool.false_eq_true, if_false, s_seq, s_if, s_set, s_ret, s_retN, s_next, s_exp, s_asg, s_for, s_par, s_raise, e_test, e_not, e_and, e_or, e_andV, e_orV, e_notV, e_op, e_un, e_if, e_call, e_callB, e_cons, e_nil, e_tup, e_lst, e_nwF, e_c, e_var, e_sl, e_oSome, e_oNone, e_chain, e_lc, e_seqI, e_mt, e_frz, e_fgt, g_nm, g_tp, putAllS, putAll0, wipeS, wipe0, getS, get0, putS, put0, ok_some]
  refine ⟨rfl, hstr _ _ _ ?_⟩
  refine ne_of rfl dk ?_
  simp only [Bool.false_eq_true, if_false, s_next]
  exact tail14 hA h hm' hu hM hsa'
end
theorem dt_law (hA : AdX A) : ∀ ds m R x, ph_law A ds m R x → psi_law A (startD 20 ds) m (endD R x) := by
  rintro ds m R x ⟨ns, rfl, hn, rfl, h⟩
  have L : LIM = 16777216 := rfl
  simp [psi_law]
  intro t
  simp [psi_law_t1]
  refine ⟨by decide, _, _, _, _, rfl, sup_same, by simp; omega, by simp, fun v us1 hv hu1 => ?_⟩
  rw [sup_sup]
  obtain ⟨wide, rfl, wd0, wd1⟩ : ∃ k : Int, v = .int k ∧ 3 ≤ k ∧ k ≤ 61 := by
    simp at hv
    rcases hv with e | e <;> subst e <;> exact ⟨_, rfl, by decide, by decide⟩
  simp [psi_law_t2]
  refine ⟨_, _, _, _, rfl, by omega, sup_same, by simp at hu1; omega, fun many us2 m0 m1 hu2 => ?_⟩
  rw [sup_sup]
  simp [psi_law_t3]
  refine ⟨_, _, _, rfl, sup_same, by simp at hu1; omega, fun c dead dn us3 hM hu3 => ?_⟩
  rw [sup_sup]
  have hc8 := hM.lo
  have hc40 := hM.hi
  simp [psi_law_t4, wMul]
  simp [psi_law_t5]
  intro sa nsa
  have hne : sa ≠ t := by rintro rfl; rw [sup_same] at nsa; cases nsa
  have hwa : sup (sup (fun _ => none) t (.lst us3)) sa (.lst []) sa = some (.lst (([] : List Mk).map mkB)) := sup_same
  have hta : sup (sup (fun _ => none) t (.lst us3)) sa (.lst []) t = some (.lst us3) := by rw [sup_ne (Ne.symm hne), sup_same]
  generalize sup (sup (fun _ => none) t (.lst us3)) sa (.lst []) = m9 at hwa hta ⊢
  simp [psi_law_t6, iRange1]
  obtain ⟨M, hM12, hMe⟩ : ∃ M : Nat, M ≤ 12 ∧ many = (M : Int) := ⟨many.toNat, by omega, by omega⟩
  subst hMe
  refine ⟨by omega, by omega, ?_⟩
  have hal : PySem.Str.ofString "abAB0.'^~" = (⟨#[97, 98, 65, 66, 48, 46, 39, 94, 126]⟩ : Str) := by decide +kernel
  refine for_inv (fun ds e m' => ∃ (ms : List Mk) (us' : List D) (v7 v8 v9 : Option D), ms.length + ds.length = M ∧ Num ms ∧ (∀ k ∈ ms, stOk c k) ∧ m' t = some (.lst us') ∧ us'.length ≤ 20 + 6 * ms.length ∧ m' sa = some (.lst (ms.map mkB)) ∧ e = some (.scr ns) :: some (.ref t) :: some (.int wide) :: some (.int (M : Int)) :: some (machD c dead dn) :: some (.int (2 * c)) :: some (.ref sa) :: [v7, v8, v9, none, none, none, none, none, none, none, none, none, none]) _ _ _ ⟨[], us3, none, none, none, by simp [rangeD], fun i k hik => by simp at hik, by simp, hta, by simp at hu1; simp; omega, hwa, rfl⟩ ?_ ?_
  · rintro d ds e m' ⟨ms, us', v7, v8, v9, hl, hnm, hok, hm', hu', hw', rfl⟩ P hP
    refine ⟨trivial, ?_⟩
    simp only [List.length_cons] at hl
    simp only [wSub, s_seq, s_if, s_set, s_ret, s_retN, s_next, s_exp, s_asg, s_for, s_par, s_raise, e_test, e_not, e_and, e_or, e_andV, e_orV, e_notV, e_op, e_un, e_if, e_call, e_callB, e_cons, e_nil, e_tup, e_lst, e_nwF, e_c, e_var, e_sl, e_oSome, e_oNone, e_chain, e_lc, e_seqI, e_mt, e_frz, e_fgt, g_nm, g_tp, putAllS, putAll0, wipeS, wipe0, getS, get0, putS, put0, ok_some]
    refine ⟨by show 2 ≤ LIM; decide, rfl, _, _, _, _, rfl, hm', by omega, by simp, fun v us4 hv hu4 => ?_⟩
    obtain ⟨k, rfl, k0, k1⟩ : ∃ k : Int, v = .int k ∧ 3 ≤ k ∧ k ≤ 2 * c - 1 := by
      simp at hv
      rcases hv with e | e <;> subst e <;> exact ⟨_, rfl, by omega, by omega⟩
    refine ⟨rfl, _, _, _, _, rfl, by omega, sup_same, by omega, fun place us5 p0 p1 hu5 => ?_⟩
    rw [sup_sup]
    simp only [s_seq, s_if, s_set, s_ret, s_retN, s_next, s_exp, s_asg, s_for, s_par, s_raise, e_test, e_not, e_and, e_or, e_andV, e_orV, e_notV, e_op, e_un, e_if, e_call, e_callB, e_cons, e_nil, e_tup, e_lst, e_nwF, e_c, e_var, e_sl, e_oSome, e_oNone, e_chain, e_lc, e_seqI, e_mt, e_frz, e_fgt, g_nm, g_tp, putAllS, putAll0, wipeS, wipe0, getS, get0, putS, put0, ok_some]
    refine ⟨by show 2 ≤ LIM; decide, rfl, _, _, _, _, rfl, sup_same, by omega, by simp, fun v us6 hv hu6 => ?_⟩
    rw [sup_sup]
    obtain ⟨red, rfl⟩ : ∃ red, v = colD red := by
      simp at hv
      rcases hv with e | e
      · exact ⟨false, e⟩
      · exact ⟨true, e⟩
    have hw6 : sup m' t (.lst us6) sa = some (.lst (ms.map mkB)) := by rw [sup_ne hne]; exact hw'
    have ht6 : sup m' t (.lst us6) t = some (.lst us6) := sup_same
    generalize sup m' t (.lst us6) = m6 at hw6 ht6 ⊢
    simp only [tyM, hal, s_seq, s_if, s_set, s_ret, s_retN, s_next, s_exp, s_asg, s_for, s_par, s_raise, e_test, e_not, e_and, e_or, e_andV, e_orV, e_notV, e_op, e_un, e_if, e_call, e_callB, e_cons, e_nil, e_tup, e_lst, e_nwF, e_c, e_var, e_sl, e_oSome, e_oNone, e_chain, e_lc, e_seqI, e_mt, e_frz, e_fgt, g_nm, g_tp, putAllS, putAll0, wipeS, wipe0, getS, get0, putS, put0, ok_some]
    refine ⟨by rw [hw6]; trivial, rfl, _, _, _, _, rfl, by omega, ht6, by omega, fun row us7 r0 r1 hu7 => ?_⟩
    refine ⟨rfl, _, _, _, _, rfl, sup_same, by omega, by decide, by decide, fun sg us8 hsg hu8 => ?_⟩
    rw [sup_sup]
    have hsg' : sg ∈ (G_SIGNS ++ G_GREAT).cps.toList := by
      have : ∀ g ∈ [97, 98, 65, 66, 48, 46, 39, 94, 126], g ∈ (G_SIGNS ++ G_GREAT).cps.toList := by decide +kernel
      exact this sg (by simpa using hsg)
    refine ⟨by show 4 ≤ LIM; decide, ?_⟩
    have hw8 : sup m6 t (.lst us8) sa = some (.lst (ms.map mkB)) := by rw [sup_ne hne]; exact hw6
    refine ⟨_, hw8, by simp; omega, ?_⟩
    refine hP _ _ ⟨ms ++ [⟨(ms.length : Int), row, place, sg, red⟩], us8, _, _, _, by simp; omega, fun i k hik => ?_, fun k hk => ?_, by rw [sup_ne (Ne.symm hne), sup_same], by simp; omega, by rw [sup_same]; simp [mkB], rfl⟩
    · by_cases hi : i < ms.length
      · rw [List.getElem?_append_left hi] at hik; exact hnm i k hik
      · rw [List.getElem?_append_right (by omega)] at hik
        have : i - ms.length = 0 := by
          rcases Nat.eq_zero_or_pos (i - ms.length) with z | z
          · exact z
          · rw [List.getElem?_eq_none (by simp; omega)] at hik; cases hik
        rw [this] at hik
        simp at hik; subst hik
        show ((ms.length : Nat) : Int) = (i : Int); omega
    · rcases List.mem_append.mp hk with z | z
      · exact hok k z
      · simp at z; subst z
        exact ⟨r0, by show row ≤ 60; omega, p0, by show place ≤ 2 * c - 2; omega, hsg'⟩
  · rintro e m' ⟨ms, us', v7, v8, v9, hl, hnm, hok, hm', hu', hw', rfl⟩
    refine ⟨trivial, ?_⟩
    simp only [List.length_nil, Nat.add_zero] at hl
    exact tail7 hA h hm' (by omega) hM ⟨hnm, hok, by omega⟩ hw'
end DL
end
section
set_option maxHeartbeats 0
namespace DL.K08
open PySem PySem.Spec PyProof.Rows L2 DL
def top (i : Nat) : Stmt := PySem.Challenge.pw_inkcarriage_k08_whole_keys_for.main.body.getD i (.Pass ⟨0, 0, 0, 0⟩)
abbrev s_is_whole : Stmt := top 24
abbrev N_is_whole : List Str := ["thing", "low", "most"]
theorem sc_is_whole : FnScope N_is_whole ["thing", "low", "most"] (defScope s_is_whole) := ⟨rfl, rfl, rfl, by decide +kernel, rfl, by decide +kernel, by decide +kernel⟩
abbrev s_is_one_of : Stmt := top 25
abbrev N_is_one_of : List Str := ["thing", "signs"]
theorem sc_is_one_of : FnScope N_is_one_of ["thing", "signs"] (defScope s_is_one_of) := ⟨rfl, rfl, rfl, by decide +kernel, rfl, by decide +kernel, by decide +kernel⟩
abbrev s_is_rising : Stmt := top 26
abbrev N_is_rising : List Str := ["thing", "one", "other"]
theorem sc_is_rising : FnScope N_is_rising ["thing"] (defScope s_is_rising) := ⟨rfl, rfl, rfl, by decide +kernel, rfl, by decide +kernel, by decide +kernel⟩
abbrev s_is_machine : Stmt := top 27
abbrev N_is_machine : List Str := ["thing", "sign"]
theorem sc_is_machine : FnScope N_is_machine ["thing"] (defScope s_is_machine) := ⟨rfl, rfl, rfl, by decide +kernel, rfl, by decide +kernel, by decide +kernel⟩
abbrev s_need_machine : Stmt := top 28
abbrev N_need_machine : List Str := ["thing"]
theorem sc_need_machine : FnScope N_need_machine ["thing"] (defScope s_need_machine) := ⟨rfl, rfl, rfl, by decide +kernel, rfl, by decide +kernel, by decide +kernel⟩
abbrev s_end_of : Stmt := top 29
abbrev N_end_of : List Str := ["machine"]
theorem sc_end_of : FnScope N_end_of ["machine"] (defScope s_end_of) := ⟨rfl, rfl, rfl, by decide +kernel, rfl, by decide +kernel, by decide +kernel⟩
abbrev s_is_key : Stmt := top 30
abbrev N_is_key : List Str := ["thing"]
theorem sc_is_key : FnScope N_is_key ["thing"] (defScope s_is_key) := ⟨rfl, rfl, rfl, by decide +kernel, rfl, by decide +kernel, by decide +kernel⟩
abbrev s_need_keys : Stmt := top 31
abbrev N_need_keys : List Str := ["thing", "key"]
theorem sc_need_keys : FnScope N_need_keys ["thing"] (defScope s_need_keys) := ⟨rfl, rfl, rfl, by decide +kernel, rfl, by decide +kernel, by decide +kernel⟩
abbrev s_struck_as : Stmt := top 32
abbrev N_struck_as : List Str := ["sign", "caps"]
theorem sc_struck_as : FnScope N_struck_as ["sign", "caps"] (defScope s_struck_as) := ⟨rfl, rfl, rfl, by decide +kernel, rfl, by decide +kernel, by decide +kernel⟩
abbrev s_key_for : Stmt := top 35
abbrev N_key_for : List Str := ["sign"]
theorem sc_key_for : FnScope N_key_for ["sign"] (defScope s_key_for) := ⟨rfl, rfl, rfl, by decide +kernel, rfl, by decide +kernel, by decide +kernel⟩
abbrev s_is_strike : Stmt := top 38
abbrev N_is_strike : List Str := ["machine", "thing"]
theorem sc_is_strike : FnScope N_is_strike ["machine", "thing"] (defScope s_is_strike) := ⟨rfl, rfl, rfl, by decide +kernel, rfl, by decide +kernel, by decide +kernel⟩
abbrev s_led : Stmt := top 39
abbrev N_led : List Str := ["place", "goal", "keys"]
theorem sc_led : FnScope N_led ["place", "goal"] (defScope s_led) := ⟨rfl, rfl, rfl, by decide +kernel, rfl, by decide +kernel, by decide +kernel⟩
abbrev s_home_row : Stmt := top 40
abbrev N_home_row : List Str := ["machine", "row"]
theorem sc_home_row : FnScope N_home_row ["machine", "row"] (defScope s_home_row) := ⟨rfl, rfl, rfl, by decide +kernel, rfl, by decide +kernel, by decide +kernel⟩
abbrev s_home : Stmt := top 41
abbrev N_home : List Str := ["machine", "row"]
theorem sc_home : FnScope N_home ["machine", "row"] (defScope s_home) := ⟨rfl, rfl, rfl, by decide +kernel, rfl, by decide +kernel, by decide +kernel⟩
abbrev s_keys_for : Stmt := top 42
abbrev N_keys_for : List Str := ["machine", "some", "keys", "row", "place", "colour", "high", "spot", "number", "sign", "wish", "one"]
theorem sc_keys_for : FnScope N_keys_for ["machine", "some"] (defScope s_keys_for) := ⟨rfl, rfl, rfl, by decide +kernel, rfl, by decide +kernel, by decide +kernel⟩
abbrev s_keys_of : Stmt := top 43
abbrev N_keys_of : List Str := ["text", "keys", "sign"]
theorem sc_keys_of : FnScope N_keys_of ["text"] (defScope s_keys_of) := ⟨rfl, rfl, rfl, by decide +kernel, rfl, by decide +kernel, by decide +kernel⟩
abbrev s_Machine___init__ : Stmt := inClass (top 46) 0
abbrev N_Machine___init__ : List Str := ["self", "machine", "tabs"]
theorem sc_Machine___init__ : FnScope N_Machine___init__ ["self", "machine", "tabs"] (defScope s_Machine___init__) := ⟨rfl, rfl, rfl, by decide +kernel, rfl, by decide +kernel, by decide +kernel⟩
abbrev s_Machine_is_locked : Stmt := inClass (top 46) 1
abbrev N_Machine_is_locked : List Str := ["self", "place"]
theorem sc_Machine_is_locked : FnScope N_Machine_is_locked ["self", "place"] (defScope s_Machine_is_locked) := ⟨rfl, rfl, rfl, by decide +kernel, rfl, by decide +kernel, by decide +kernel⟩
abbrev s_Machine_go_on : Stmt := inClass (top 46) 2
abbrev N_Machine_go_on : List Str := ["self", "place"]
theorem sc_Machine_go_on : FnScope N_Machine_go_on ["self", "place"] (defScope s_Machine_go_on) := ⟨rfl, rfl, rfl, by decide +kernel, rfl, by decide +kernel, by decide +kernel⟩
abbrev s_Machine_strike : Stmt := inClass (top 46) 3
abbrev N_Machine_strike : List Str := ["self", "sign", "told"]
theorem sc_Machine_strike : FnScope N_Machine_strike ["self", "sign"] (defScope s_Machine_strike) := ⟨rfl, rfl, rfl, by decide +kernel, rfl, by decide +kernel, by decide +kernel⟩
abbrev s_Machine_lift : Stmt := inClass (top 46) 4
abbrev N_Machine_lift : List Str := ["self", "sign", "like", "some", "told", "number", "mark"]
theorem sc_Machine_lift : FnScope N_Machine_lift ["self", "sign"] (defScope s_Machine_lift) := ⟨rfl, rfl, rfl, by decide +kernel, rfl, by decide +kernel, by decide +kernel⟩
abbrev s_Machine_move : Stmt := inClass (top 46) 5
abbrev N_Machine_move : List Str := ["self", "word", "place", "tab"]
theorem sc_Machine_move : FnScope N_Machine_move ["self", "word"] (defScope s_Machine_move) := ⟨rfl, rfl, rfl, by decide +kernel, rfl, by decide +kernel, by decide +kernel⟩
abbrev s_Machine_roll : Stmt := inClass (top 46) 6
abbrev N_Machine_roll : List Str := ["self", "word", "row"]
theorem sc_Machine_roll : FnScope N_Machine_roll ["self", "word"] (defScope s_Machine_roll) := ⟨rfl, rfl, rfl, by decide +kernel, rfl, by decide +kernel, by decide +kernel⟩
abbrev s_Machine_set_up : Stmt := inClass (top 46) 7
abbrev N_Machine_set_up : List Str := ["self", "word"]
theorem sc_Machine_set_up : FnScope N_Machine_set_up ["self", "word"] (defScope s_Machine_set_up) := ⟨rfl, rfl, rfl, by decide +kernel, rfl, by decide +kernel, by decide +kernel⟩
abbrev s_Machine_press : Stmt := inClass (top 46) 8
abbrev N_Machine_press : List Str := ["self", "key", "told"]
theorem sc_Machine_press : FnScope N_Machine_press ["self", "key"] (defScope s_Machine_press) := ⟨rfl, rfl, rfl, by decide +kernel, rfl, by decide +kernel, by decide +kernel⟩
abbrev s_Machine_stand : Stmt := inClass (top 46) 9
abbrev N_Machine_stand : List Str := ["self", "where"]
theorem sc_Machine_stand : FnScope N_Machine_stand ["self"] (defScope s_Machine_stand) := ⟨rfl, rfl, rfl, by decide +kernel, rfl, by decide +kernel, by decide +kernel⟩
abbrev s_worked : Stmt := top 47
abbrev N_worked : List Str := ["machine", "tabs", "keys", "work", "told", "key"]
theorem sc_worked : FnScope N_worked ["machine", "tabs", "keys"] (defScope s_worked) := ⟨rfl, rfl, rfl, by decide +kernel, rfl, by decide +kernel, by decide +kernel⟩
abbrev s_need_both : Stmt := top 48
abbrev N_need_both : List Str := ["machine", "keys"]
theorem sc_need_both : FnScope N_need_both ["machine", "keys"] (defScope s_need_both) := ⟨rfl, rfl, rfl, by decide +kernel, rfl, by decide +kernel, by decide +kernel⟩
abbrev s_marks_of : Stmt := top 50
abbrev N_marks_of : List Str := ["machine", "keys", "work", "told", "some", "mark", "row", "place", "number"]
theorem sc_marks_of : FnScope N_marks_of ["machine", "keys"] (defScope s_marks_of) := ⟨rfl, rfl, rfl, by decide +kernel, rfl, by decide +kernel, by decide +kernel⟩
abbrev s_strikes : Stmt := top 51
abbrev N_strikes : List Str := ["machine", "keys", "mark"]
theorem sc_strikes : FnScope N_strikes ["machine", "keys"] (defScope s_strikes) := ⟨rfl, rfl, rfl, by decide +kernel, rfl, by decide +kernel, by decide +kernel⟩
abbrev s__law_cell_at : Stmt := top 53
abbrev N__law_cell_at : List Str := ["script", "k"]
theorem sc__law_cell_at : FnScope N__law_cell_at ["script", "k"] (defScope s__law_cell_at) := ⟨rfl, rfl, rfl, by decide +kernel, rfl, by decide +kernel, by decide +kernel⟩
abbrev s__law_mixed : Stmt := top 54
abbrev N__law_mixed : List Str := ["script", "k", "many", "drawn"]
theorem sc__law_mixed : FnScope N__law_mixed ["script", "k", "many"] (defScope s__law_mixed) := ⟨rfl, rfl, rfl, by decide +kernel, rfl, by decide +kernel, by decide +kernel⟩
abbrev s__law_draw : Stmt := top 55
abbrev N__law_draw : List Str := ["script", "town", "many"]
theorem sc__law_draw : FnScope N__law_draw ["script", "town", "many"] (defScope s__law_draw) := ⟨rfl, rfl, rfl, by decide +kernel, rfl, by decide +kernel, by decide +kernel⟩
abbrev s__law_pick : Stmt := top 56
abbrev N__law_pick : List Str := ["script", "town", "some"]
theorem sc__law_pick : FnScope N__law_pick ["script", "town", "some"] (defScope s__law_pick) := ⟨rfl, rfl, rfl, by decide +kernel, rfl, by decide +kernel, by decide +kernel⟩
abbrev s__law_machine : Stmt := top 57
abbrev N__law_machine : List Str := ["script", "town", "columns", "dead", "sign"]
theorem sc__law_machine : FnScope N__law_machine ["script", "town"] (defScope s__law_machine) := ⟨rfl, rfl, rfl, by decide +kernel, rfl, by decide +kernel, by decide +kernel⟩
abbrev s__law_new : Stmt := top 58
abbrev N__law_new : List Str := ["machine", "tabs", "end", "made"]
theorem sc__law_new : FnScope N__law_new ["machine", "tabs"] (defScope s__law_new) := ⟨rfl, rfl, rfl, by decide +kernel, rfl, by decide +kernel, by decide +kernel⟩
abbrev s__law_shut : Stmt := top 59
abbrev N__law_shut : List Str := ["work", "place"]
theorem sc__law_shut : FnScope N__law_shut ["work", "place"] (defScope s__law_shut) := ⟨rfl, rfl, rfl, by decide +kernel, rfl, by decide +kernel, by decide +kernel⟩
abbrev s__law_go : Stmt := top 60
abbrev N__law_go : List Str := ["work", "place", "bell"]
theorem sc__law_go : FnScope N__law_go ["work", "place"] (defScope s__law_go) := ⟨rfl, rfl, rfl, by decide +kernel, rfl, by decide +kernel, by decide +kernel⟩
abbrev s__law_as : Stmt := top 61
abbrev N__law_as : List Str := ["work", "sign"]
theorem sc__law_as : FnScope N__law_as ["work", "sign"] (defScope s__law_as) := ⟨rfl, rfl, rfl, by decide +kernel, rfl, by decide +kernel, by decide +kernel⟩
abbrev s__law_ink : Stmt := top 62
abbrev N__law_ink : List Str := ["work", "word", "sign", "here", "mark", "some", "told_here", "one"]
theorem sc__law_ink : FnScope N__law_ink ["work", "word", "sign"] (defScope s__law_ink) := ⟨rfl, rfl, rfl, by decide +kernel, rfl, by decide +kernel, by decide +kernel⟩
abbrev s__law_turn : Stmt := top 63
abbrev N__law_turn : List Str := ["work", "word", "place", "name", "tab"]
theorem sc__law_turn : FnScope N__law_turn ["work", "word"] (defScope s__law_turn) := ⟨rfl, rfl, rfl, by decide +kernel, rfl, by decide +kernel, by decide +kernel⟩
abbrev s__law_step : Stmt := top 64
abbrev N__law_step : List Str := ["work", "word", "place", "row", "goal", "tab"]
theorem sc__law_step : FnScope N__law_step ["work", "word"] (defScope s__law_step) := ⟨rfl, rfl, rfl, by decide +kernel, rfl, by decide +kernel, by decide +kernel⟩
abbrev s__law_press : Stmt := top 65
abbrev N__law_press : List Str := ["work", "key", "told_here"]
theorem sc__law_press : FnScope N__law_press ["work", "key"] (defScope s__law_press) := ⟨rfl, rfl, rfl, by decide +kernel, rfl, by decide +kernel, by decide +kernel⟩
abbrev s__law_worked : Stmt := top 66
abbrev N__law_worked : List Str := ["machine", "tabs", "keys", "work", "row", "key"]
theorem sc__law_worked : FnScope N__law_worked ["machine", "tabs", "keys"] (defScope s__law_worked) := ⟨rfl, rfl, rfl, by decide +kernel, rfl, by decide +kernel, by decide +kernel⟩
abbrev s__law_marks : Stmt := top 67
abbrev N__law_marks : List Str := ["work", "some", "mark", "row", "place", "number"]
theorem sc__law_marks : FnScope N__law_marks ["work"] (defScope s__law_marks) := ⟨rfl, rfl, rfl, by decide +kernel, rfl, by decide +kernel, by decide +kernel⟩
abbrev s__law_which : Stmt := top 68
abbrev N__law_which : List Str := ["e", "own"]
theorem sc__law_which : FnScope N__law_which ["e"] (defScope s__law_which) := ⟨rfl, rfl, rfl, by decide +kernel, rfl, by decide +kernel, by decide +kernel⟩
abbrev s__law_ask : Stmt := top 69
abbrev N__law_ask : List Str := ["machine", "some", "e"]
theorem sc__law_ask : FnScope N__law_ask ["machine", "some"] (defScope s__law_ask) := ⟨rfl, rfl, rfl, by decide +kernel, rfl, by decide +kernel, by decide +kernel⟩
abbrev s_law : Stmt := top 70
abbrev N_law : List Str := ["script", "town", "wide", "many", "machine", "end", "some", "k", "place", "colour", "found", "work", "row", "order", "wish", "bad", "low", "one", "high", "mark"]
theorem sc_law : FnScope N_law ["script"] (defScope s_law) := ⟨rfl, rfl, rfl, by decide +kernel, rfl, by decide +kernel, by decide +kernel⟩
structure Cl_Machine (K : PySem.W.Frag) (mg : Str → Option Value) (A : Ad) (f_Machine___init__ : Addr) (f_Machine_is_locked : Addr) (f_Machine_go_on : Addr) (f_Machine_strike : Addr) (f_Machine_lift : Addr) (f_Machine_move : Addr) (f_Machine_roll : Addr) (f_Machine_set_up : Addr) (f_Machine_press : Addr) (f_Machine_stand : Addr) : Prop where
  g : mg "Machine" = some (.ref A.cMachine)
  cl : Cls K A.cMachine
  mkk : L2.Mk K A.cMachine f_Machine___init__
  m_go_on : Meth K A.cMachine "go_on" f_Machine_go_on
  m_is_locked : Meth K A.cMachine "is_locked" f_Machine_is_locked
  m_lift : Meth K A.cMachine "lift" f_Machine_lift
  m_move : Meth K A.cMachine "move" f_Machine_move
  m_press : Meth K A.cMachine "press" f_Machine_press
  m_roll : Meth K A.cMachine "roll" f_Machine_roll
  m_set_up : Meth K A.cMachine "set_up" f_Machine_set_up
  m_strike : Meth K A.cMachine "strike" f_Machine_strike
  n_caps : NoAttr K A.cMachine "caps"
  n_colour : NoAttr K A.cMachine "colour"
  n_dead : NoAttr K A.cMachine "dead"
  n_down : NoAttr K A.cMachine "down"
  n_end : NoAttr K A.cMachine "end"
  n_high : NoAttr K A.cMachine "high"
  n_is_free : NoAttr K A.cMachine "is_free"
  n_low : NoAttr K A.cMachine "low"
  n_many : NoAttr K A.cMachine "many"
  n_marks : NoAttr K A.cMachine "marks"
  n_place : NoAttr K A.cMachine "place"
  n_rings : NoAttr K A.cMachine "rings"
  n_row : NoAttr K A.cMachine "row"
  n_tabs : NoAttr K A.cMachine "tabs"
structure Txt (K : PySem.W.Frag) (mg : Str → Option Value) (A : Ad) where
  ad : AdX A
  f_is_whole : Fn K mg "is_whole" "is_whole" s_is_whole ["thing", "low", "most"]
  gf_is_whole : mg "is_whole" = some (.ref f_is_whole.f)
  f_is_one_of : Fn K mg "is_one_of" "is_one_of" s_is_one_of ["thing", "signs"]
  gf_is_one_of : mg "is_one_of" = some (.ref f_is_one_of.f)
  f_is_rising : Fn K mg "is_rising" "is_rising" s_is_rising ["thing"]
  gf_is_rising : mg "is_rising" = some (.ref f_is_rising.f)
  f_is_machine : Fn K mg "is_machine" "is_machine" s_is_machine ["thing"]
  gf_is_machine : mg "is_machine" = some (.ref f_is_machine.f)
  f_need_machine : Fn K mg "need_machine" "need_machine" s_need_machine ["thing"]
  gf_need_machine : mg "need_machine" = some (.ref f_need_machine.f)
  f_end_of : Fn K mg "end_of" "end_of" s_end_of ["machine"]
  gf_end_of : mg "end_of" = some (.ref f_end_of.f)
  f_is_key : Fn K mg "is_key" "is_key" s_is_key ["thing"]
  gf_is_key : mg "is_key" = some (.ref f_is_key.f)
  f_need_keys : Fn K mg "need_keys" "need_keys" s_need_keys ["thing"]
  gf_need_keys : mg "need_keys" = some (.ref f_need_keys.f)
  f_struck_as : Fn K mg "struck_as" "struck_as" s_struck_as ["sign", "caps"]
  gf_struck_as : mg "struck_as" = some (.ref f_struck_as.f)
  f_key_for : Fn K mg "key_for" "key_for" s_key_for ["sign"]
  gf_key_for : mg "key_for" = some (.ref f_key_for.f)
  f_is_strike : Fn K mg "is_strike" "is_strike" s_is_strike ["machine", "thing"]
  gf_is_strike : mg "is_strike" = some (.ref f_is_strike.f)
  f_led : Fn K mg "led" "led" s_led ["place", "goal"]
  gf_led : mg "led" = some (.ref f_led.f)
  f_home_row : Fn K mg "home_row" "home_row" s_home_row ["machine", "row"]
  gf_home_row : mg "home_row" = some (.ref f_home_row.f)
  f_home : Fn K mg "home" "home" s_home ["machine", "row"]
  gf_home : mg "home" = some (.ref f_home.f)
  f_keys_for : Fn K mg "keys_for" "keys_for" s_keys_for ["machine", "some"]
  gf_keys_for : mg "keys_for" = some (.ref f_keys_for.f)
  f_keys_of : Fn K mg "keys_of" "keys_of" s_keys_of ["text"]
  gf_keys_of : mg "keys_of" = some (.ref f_keys_of.f)
  f_Machine___init__ : Fn K mg "__init__" "Machine.__init__" s_Machine___init__ ["self", "machine", "tabs"]
  f_Machine_is_locked : Fn K mg "is_locked" "Machine.is_locked" s_Machine_is_locked ["self", "place"]
  f_Machine_go_on : Fn K mg "go_on" "Machine.go_on" s_Machine_go_on ["self", "place"]
  f_Machine_strike : Fn K mg "strike" "Machine.strike" s_Machine_strike ["self", "sign"]
  f_Machine_lift : Fn K mg "lift" "Machine.lift" s_Machine_lift ["self", "sign"]
  f_Machine_move : Fn K mg "move" "Machine.move" s_Machine_move ["self", "word"]
  f_Machine_roll : Fn K mg "roll" "Machine.roll" s_Machine_roll ["self", "word"]
  f_Machine_set_up : Fn K mg "set_up" "Machine.set_up" s_Machine_set_up ["self", "word"]
  f_Machine_press : Fn K mg "press" "Machine.press" s_Machine_press ["self", "key"]
  f_Machine_stand : Fn K mg "stand" "Machine.stand" s_Machine_stand ["self"]
  f_worked : Fn K mg "worked" "worked" s_worked ["machine", "tabs", "keys"]
  gf_worked : mg "worked" = some (.ref f_worked.f)
  f_need_both : Fn K mg "need_both" "need_both" s_need_both ["machine", "keys"]
  gf_need_both : mg "need_both" = some (.ref f_need_both.f)
  f_marks_of : Fn K mg "marks_of" "marks_of" s_marks_of ["machine", "keys"]
  gf_marks_of : mg "marks_of" = some (.ref f_marks_of.f)
  f_strikes : Fn K mg "strikes" "strikes" s_strikes ["machine", "keys"]
  gf_strikes : mg "strikes" = some (.ref f_strikes.f)
  f__law_cell_at : Fn K mg "_law_cell_at" "_law_cell_at" s__law_cell_at ["script", "k"]
  gf__law_cell_at : mg "_law_cell_at" = some (.ref f__law_cell_at.f)
  f__law_mixed : Fn K mg "_law_mixed" "_law_mixed" s__law_mixed ["script", "k", "many"]
  gf__law_mixed : mg "_law_mixed" = some (.ref f__law_mixed.f)
  f__law_draw : Fn K mg "_law_draw" "_law_draw" s__law_draw ["script", "town", "many"]
  gf__law_draw : mg "_law_draw" = some (.ref f__law_draw.f)
  f__law_pick : Fn K mg "_law_pick" "_law_pick" s__law_pick ["script", "town", "some"]
  gf__law_pick : mg "_law_pick" = some (.ref f__law_pick.f)
  f__law_machine : Fn K mg "_law_machine" "_law_machine" s__law_machine ["script", "town"]
  gf__law_machine : mg "_law_machine" = some (.ref f__law_machine.f)
  f__law_new : Fn K mg "_law_new" "_law_new" s__law_new ["machine", "tabs"]
  gf__law_new : mg "_law_new" = some (.ref f__law_new.f)
  f__law_shut : Fn K mg "_law_shut" "_law_shut" s__law_shut ["work", "place"]
  gf__law_shut : mg "_law_shut" = some (.ref f__law_shut.f)
  f__law_go : Fn K mg "_law_go" "_law_go" s__law_go ["work", "place"]
  gf__law_go : mg "_law_go" = some (.ref f__law_go.f)
  f__law_as : Fn K mg "_law_as" "_law_as" s__law_as ["work", "sign"]
  gf__law_as : mg "_law_as" = some (.ref f__law_as.f)
  f__law_ink : Fn K mg "_law_ink" "_law_ink" s__law_ink ["work", "word", "sign"]
  gf__law_ink : mg "_law_ink" = some (.ref f__law_ink.f)
  f__law_turn : Fn K mg "_law_turn" "_law_turn" s__law_turn ["work", "word"]
  gf__law_turn : mg "_law_turn" = some (.ref f__law_turn.f)
  f__law_step : Fn K mg "_law_step" "_law_step" s__law_step ["work", "word"]
  gf__law_step : mg "_law_step" = some (.ref f__law_step.f)
  f__law_press : Fn K mg "_law_press" "_law_press" s__law_press ["work", "key"]
  gf__law_press : mg "_law_press" = some (.ref f__law_press.f)
  f__law_worked : Fn K mg "_law_worked" "_law_worked" s__law_worked ["machine", "tabs", "keys"]
  gf__law_worked : mg "_law_worked" = some (.ref f__law_worked.f)
  f__law_marks : Fn K mg "_law_marks" "_law_marks" s__law_marks ["work"]
  gf__law_marks : mg "_law_marks" = some (.ref f__law_marks.f)
  f__law_which : Fn K mg "_law_which" "_law_which" s__law_which ["e"]
  gf__law_which : mg "_law_which" = some (.ref f__law_which.f)
  f__law_ask : Fn K mg "_law_ask" "_law_ask" s__law_ask ["machine", "some"]
  gf__law_ask : mg "_law_ask" = some (.ref f__law_ask.f)
  f_law : Fn K mg "law" "law" s_law ["script"]
  gf_law : mg "law" = some (.ref f_law.f)
  x_InkError : ExG K mg "InkError" A.xInkError
  x_NoMachine : ExF K mg "NoMachine" A.xNoMachine
  x_NoKeys : ExF K mg "NoKeys" A.xNoKeys
  x_NoKey : ExG K mg "NoKey" A.xNoKey
  x_NoPlace : ExG K mg "NoPlace" A.xNoPlace
  x_NoGoal : ExG K mg "NoGoal" A.xNoGoal
  x_NoStrikes : ExF K mg "NoStrikes" A.xNoStrikes
  x_NoText : ExG K mg "NoText" A.xNoText
  x_NoNumbers : ExG K mg "NoNumbers" A.xNoNumbers
  x_TooWide : ExG K mg "TooWide" A.xTooWide
  x_Nothing : ExG K mg "Nothing" A.xNothing
  g_LETTERS : ∃ t, mg "LETTERS" = some (.str G_LETTERS t)
  g_GREAT : ∃ t, mg "GREAT" = some (.str G_GREAT t)
  g_DEAD : ∃ t, mg "DEAD" = some (.str G_DEAD t)
  g_SIGNS : ∃ t, mg "SIGNS" = some (.str G_SIGNS t)
  g_MOVES : ∃ a, mg "MOVES" = some (.ref a) ∧ ∀ B, Dp K B (.ref a) (.tup G_MOVES)
  g_TURNS : ∃ a, mg "TURNS" = some (.ref a) ∧ ∀ B, Dp K B (.ref a) (.tup G_TURNS)
  g_LEAST : ∃ t, mg "LEAST" = some (.int 8 t)
  g_WIDEST : ∃ t, mg "WIDEST" = some (.int 40 t)
  g_KEYS : ∃ t, mg "KEYS" = some (.int 4000 t)
  g_ROWS : ∃ t, mg "ROWS" = some (.int 60 t)
  g_COLOURS : ∃ a, mg "COLOURS" = some (.ref a) ∧ ∀ B, Dp K B (.ref a) (.tup G_COLOURS)
  g_MOST : ∃ t, mg "MOST" = some (.int 60 t)
  g_BELL : ∃ t, mg "BELL" = some (.int 10 t)
  b_ValueError : mg "ValueError" = none
  b_all : mg "all" = none
  b_bool : mg "bool" = none
  b_enumerate : mg "enumerate" = none
  b_int : mg "int" = none
  b_isinstance : mg "isinstance" = none
  b_len : mg "len" = none
  b_list : mg "list" = none
  b_max : mg "max" = none
  b_min : mg "min" = none
  b_range : mg "range" = none
  b_set : mg "set" = none
  b_sorted : mg "sorted" = none
  b_str : mg "str" = none
  b_tuple : mg "tuple" = none
  b_zip : mg "zip" = none
  cl_Machine : Cl_Machine K mg A f_Machine___init__.f f_Machine_is_locked.f f_Machine_go_on.f f_Machine_strike.f f_Machine_lift.f f_Machine_move.f f_Machine_roll.f f_Machine_set_up.f f_Machine_press.f f_Machine_stand.f
  e_NoStrikes : PySem.W.exmOne K (.ref A.xNoStrikes) (.ref A.xInkError) = some true
  c_NoStrikes : L2.ExcC K A.xNoStrikes
  t_NoStrikes : ∀ c v, tabE A 5 c = some v → ∃ u, clsVal c = some u ∧ PySem.W.kitOne K (.ref A.xNoStrikes) u = some v
section
variable {P : Program} {w : World} {K : PySem.W.Frag} {mg : Str → Option Value} {base : Heap} {A : Ad}
theorem ok_is_whole (T : Txt K mg A) : FnOk P w K mg base (L2N.CX P w) 1 T.f_is_whole.f T.f_is_whole.fd ["thing", "low", "most"] (spD K 3 (ph_is_whole A)) := by
  have sc := sc_is_whole
  refine fnD (b := psi_is_whole A) T.f_is_whole.F sc (fun cdv Ar outer s H E hr => ?_) (fun ds m R x h hl => dt_is_whole T.ad.toAdOk ds m R x h)
  exact psd_one (psd_ret (pd_and (pd_callB (isi_) (by rfl) T.b_isinstance (by decide +kernel) (pad_cons (pd_var 0 (pv 0)) (pad_cons (pd_bty T.b_int (by decide +kernel) (by rfl)) (pad_nil)))) (pd_and (pd_not (pd_callB (isi_) (by rfl) T.b_isinstance (by decide +kernel) (pad_cons (pd_var 0 (pv 0)) (pad_cons (pd_bty T.b_bool (by decide +kernel) (by rfl)) (pad_nil))))) (pd_one (pd_chain le_ le_ (pd_var 1 (pv 1)) (pd_var 0 (pv 0)) (pd_var 2 (pv 2)))))))
theorem ok_is_one_of (T : Txt K mg A) : FnOk P w K mg base (L2N.CX P w) 1 T.f_is_one_of.f T.f_is_one_of.fd ["thing", "signs"] (spD K 2 (ph_is_one_of A)) := by
  have sc := sc_is_one_of
  refine fnD (b := psi_is_one_of A) T.f_is_one_of.F sc (fun cdv Ar outer s H E hr => ?_) (fun ds m R x h hl => dt_is_one_of T.ad.toAdOk ds m R x h)
  exact psd_one (psd_ret (pd_and (pd_callB (isi_) (by rfl) T.b_isinstance (by decide +kernel) (pad_cons (pd_var 0 (pv 0)) (pad_cons (pd_bty T.b_str (by decide +kernel) (by rfl)) (pad_nil)))) (pd_and (pd_cmp (eq_ (u64 hr)) (pd_callB (len_) (by rfl) T.b_len (by decide +kernel) (pad_cons (pd_var 0 (pv 0)) (pad_nil))) (pd_int) (nomark _)) (pd_one (pd_cmp (in_ (u65 hr)) (pd_var 0 (pv 0)) (pd_var 1 (pv 1)) (by rfl))))))
theorem ok_is_rising (T : Txt K mg A) : FnOk P w K mg base (L2N.CX P w) 1 T.f_is_rising.f T.f_is_rising.fd ["thing"] (spD K 1 (ph_is_rising A)) := by
  have sc := sc_is_rising
  refine fnD (b := psi_is_rising A) T.f_is_rising.F sc (fun cdv Ar outer s H E hr => ?_) (fun ds m R x h hl => dt_is_rising T.ad.toAdOk ds m R x h)
  exact psd_one (psd_ret (pd_callB (all_ rfl) (by rfl) T.b_all (by decide +kernel) (pad_cons (pd_lc (own := [("one", 1), ("other", 2)]) rfl sc.nd (g_tup [1, 2]) (lcw_tup (by decide)) (pid_zip (by rfl) T.b_zip (pd_var 0 (pv 0)) (pd_sl cut_ (pd_var 0 (pv 0)) (pod_some (pd_int)) (pod_none))) (blkOk_by (N := N_is_rising) (sc := defScope s_is_rising) (by decide +kernel)) (fun _ _ _ _ _ => pg_tup rfl (pgs_cons (pg_name (i := 1) sc.nd rfl (by first | exact Or.inl rfl | exact Or.inr rfl)) (pgs_cons (pg_name (i := 2) sc.nd rfl (by first | exact Or.inl rfl | exact Or.inr rfl)) (pgs_nil)))) (fun _ _ _ _ _ => ptsd_nil) (fun _ _ _ _ _ => pd_cmp lt_ (pd_var 1 (pv 1)) (pd_var 2 (pv 2)) (nomark _))) (pad_nil))))
theorem ok_end_of (T : Txt K mg A) : FnOk P w K mg base (L2N.CX P w) 1 T.f_end_of.f T.f_end_of.fd ["machine"] (spD K 1 (ph_end_of A)) := by
  have sc := sc_end_of
  refine fnD (b := psi_end_of A) T.f_end_of.F sc (fun cdv Ar outer s H E hr => ?_) (fun ds m R x h hl => dt_end_of T.ad.toAdOk ds m R x h)
  exact psd_one (psd_ret (pd_op mul_ (pd_int) (pd_ix ix_ (pd_var 0 (pv 0)) (pd_int) (fun _ _ => rfl))))
theorem ok_struck_as (T : Txt K mg A) : FnOk P w K mg base (L2N.CX P w) 1 T.f_struck_as.f T.f_struck_as.fd ["sign", "caps"] (spD K 2 (ph_struck_as A)) := by
  have sc := sc_struck_as
  refine fnD (b := psi_struck_as A) T.f_struck_as.F sc (fun cdv Ar outer s H E hr => ?_) (fun ds m R x h hl => dt_struck_as T.ad.toAdOk ds m R x h)
  exact psd_one (psd_ret (pd_if (PW.pt (pwd_and (ptd_val (pd_var 1 (pv 1))) (pwd_and1 (ptd_cmp (in_ (u65 hr)) (pd_var 0 (pv 0)) (pd_gs T.g_LETTERS (by rfl)) (by rfl))))) (pd_ix ix_ (pd_gs T.g_GREAT (by rfl)) (pd_mt PySem.F.plainAttrs_str PySem.F.slot_str_index PySem.F.type_str_index sindex_ (pd_gs T.g_LETTERS (by rfl)) (pad_cons (pd_var 0 (pv 0)) (pad_nil))) (fun _ _ => rfl)) (pd_var 0 (pv 0))))
theorem ok_key_for (T : Txt K mg A) : FnOk P w K mg base (L2N.CX P w) 1 T.f_key_for.f T.f_key_for.fd ["sign"] (spD K 1 (ph_key_for A)) := by
  have sc := sc_key_for
  refine fnD (b := psi_key_for A) T.f_key_for.F sc (fun cdv Ar outer s H E hr => ?_) (fun ds m R x h hl => dt_key_for T.ad.toAdOk ds m R x h)
  exact psd_one (psd_ret (pd_tup (pad_cons (pd_str) (pad_cons (pd_if (ptd_cmp (in_ (u65 hr)) (pd_var 0 (pv 0)) (pd_gs T.g_GREAT (by rfl)) (by rfl)) (pd_ix ix_ (pd_gs T.g_LETTERS (by rfl)) (pd_mt PySem.F.plainAttrs_str PySem.F.slot_str_index PySem.F.type_str_index sindex_ (pd_gs T.g_GREAT (by rfl)) (pad_cons (pd_var 0 (pv 0)) (pad_nil))) (fun _ _ => rfl)) (pd_var 0 (pv 0))) (pad_nil)))))
theorem ok_led (T : Txt K mg A) : FnOk P w K mg base (L2N.CX P w) 1 T.f_led.f T.f_led.fd ["place", "goal"] (spD K 2 (ph_led A)) := by
  have sc := sc_led
  refine fnD (b := psi_led A) T.f_led.F sc (fun cdv Ar outer s H E hr => ?_) (fun ds m R x h hl => dt_led T.ad.toAdOk ds m R x h)
  exact psd_cons (psd_set (i := 2) sc.nd rfl (Or.inl rfl) (pd_op mul_ (pd_lst (pad_cons (pd_tup (pad_cons (pd_str) (pad_nil))) (pad_nil))) (pd_callB (max2_ rfl) (by rfl) T.b_max (by decide +kernel) (pad_cons (pd_int) (pad_cons (pd_op div_ (pd_op add_ (pd_op sub_ (pd_var 0 (pv 0)) (pd_var 1 (pv 1))) (pd_int)) (pd_int)) (pad_nil)))))) (psd_cons (psd_set (i := 0) sc.nd rfl (Or.inl rfl) (pd_op sub_ (pd_var 0 (pv 0)) (pd_op mul_ (pd_int) (pd_callB (len_) (by rfl) T.b_len (by decide +kernel) (pad_cons (pd_var 2 (pv 2)) (pad_nil)))))) (psd_cons (psd_expr (pd_mt PySem.F.plainAttrs_list PySem.F.slot_list_extend PySem.F.type_list_extend extend_ (pd_var 2 (pv 2)) (pad_cons (pd_op add_ (pd_op mul_ (pd_lst (pad_cons (pd_tup (pad_cons (pd_str) (pad_nil))) (pad_nil))) (pd_op div_ (pd_op sub_ (pd_var 1 (pv 1)) (pd_var 0 (pv 0))) (pd_int))) (pd_op mul_ (pd_lst (pad_cons (pd_tup (pad_cons (pd_str) (pad_nil))) (pad_nil))) (pd_op mod_ (pd_op sub_ (pd_var 1 (pv 1)) (pd_var 0 (pv 0))) (pd_int)))) (pad_nil)))) (psd_one (psd_ret (pd_frz (pd_var 2 (pv 2)))))))
theorem ok_home_row (T : Txt K mg A) : FnOk P w K mg base (L2N.CX P w) 1 T.f_home_row.f T.f_home_row.fd ["machine", "row"] (spD K 2 (ph_home_row A)) := by
  have sc := sc_home_row
  refine fnD (b := psi_home_row A) T.f_home_row.F sc (fun cdv Ar outer s H E hr => ?_) (fun ds m R x h hl => dt_home_row T.ad.toAdOk ds m R x h)
  exact psd_one (psd_ret (pd_if (ptd_cmp le_ (pd_op add_ (pd_var 1 (pv 1)) (pd_ix ix_ (pd_var 0 (pv 0)) (pd_int) (fun _ _ => rfl))) (pd_gi T.g_ROWS (by rfl)) (nomark _)) (pd_op add_ (pd_var 1 (pv 1)) (pd_ix ix_ (pd_var 0 (pv 0)) (pd_int) (fun _ _ => rfl))) (pd_var 1 (pv 1))))
theorem ok_home (T : Txt K mg A) : FnOk P w K mg base (L2N.CX P w) 1 T.f_home.f T.f_home.fd ["machine", "row"] (spD K 2 (ph_home A)) := by
  have sc := sc_home
  refine fnD (b := psi_home A) T.f_home.F sc (fun cdv Ar outer s H E hr => ?_) (fun ds m R x h hl => dt_home T.ad.toAdOk ds m R x h)
  exact psd_cons (psd_if (ptd_cmp gt_ (pd_op add_ (pd_var 1 (pv 1)) (pd_ix ix_ (pd_var 0 (pv 0)) (pd_int) (fun _ _ => rfl))) (pd_gi T.g_ROWS (by rfl)) (nomark _)) (psd_one (psd_ret (pd_op add_ (pd_op mul_ (pd_lst (pad_cons (pd_tup (pad_cons (pd_str) (pad_nil))) (pad_nil))) (pd_ix ix_ (pd_var 0 (pv 0)) (pd_int) (fun _ _ => rfl))) (pd_lst (pad_cons (pd_tup (pad_cons (pd_str) (pad_nil))) (pad_nil)))))) (psd_nil)) (psd_one (psd_ret (pd_lst (pad_cons (pd_tup (pad_cons (pd_str) (pad_nil))) (pad_nil)))))
theorem ok_Machine_is_locked (T : Txt K mg A) : FnOk P w K mg base (L2N.CX P w) 1 T.f_Machine_is_locked.f T.f_Machine_is_locked.fd ["self", "place"] (spD K 2 (ph_Machine_is_locked A)) := by
  have sc := sc_Machine_is_locked
  refine fnD (b := psi_Machine_is_locked A) T.f_Machine_is_locked.F sc (fun cdv Ar outer s H E hr => ?_) (fun ds m R x h hl => dt_Machine_is_locked T.ad.toAdOk ds m R x h)
  exact psd_one (psd_ret (pd_or (pd_cmp gt_ (pd_var 1 (pv 1)) (pd_fld (pd_var 0 (pv 0)) T.cl_Machine.cl T.cl_Machine.n_end) (nomark _)) (pd_one (pd_and (pd_not (pd_fld (pd_var 0 (pv 0)) T.cl_Machine.cl T.cl_Machine.n_is_free)) (pd_one (pd_cmp gt_ (pd_var 1 (pv 1)) (pd_fld (pd_var 0 (pv 0)) T.cl_Machine.cl T.cl_Machine.n_high) (nomark _)))))))
theorem ok_Machine_go_on (T : Txt K mg A) : FnOk P w K mg base (L2N.CX P w) 1 T.f_Machine_go_on.f T.f_Machine_go_on.fd ["self", "place"] (spD K 2 (ph_Machine_go_on A)) := by
  have sc := sc_Machine_go_on
  refine fnD (b := psi_Machine_go_on A) T.f_Machine_go_on.F sc (fun cdv Ar outer s H E hr => ?_) (fun ds m R x h hl => dt_Machine_go_on T.ad.toAdOk ds m R x h)
  exact psd_cons (psd_if (ptd_chain lt_ le_ (pd_fld (pd_var 0 (pv 0)) T.cl_Machine.cl T.cl_Machine.n_place) (pd_op sub_ (pd_fld (pd_var 0 (pv 0)) T.cl_Machine.cl T.cl_Machine.n_high) (pd_gi T.g_BELL (by rfl))) (pd_var 1 (pv 1))) (psd_one (psd_expr (pd_mt PySem.F.plainAttrs_list PySem.F.slot_list_append PySem.F.type_list_append append_ (pd_fld (pd_var 0 (pv 0)) T.cl_Machine.cl T.cl_Machine.n_rings) (pad_cons (pd_fld (pd_var 0 (pv 0)) T.cl_Machine.cl T.cl_Machine.n_many) (pad_nil))))) (psd_nil)) (psd_one (psd_fld (pd_var 0 (pv 0)) (pd_var 1 (pv 1)) T.cl_Machine.cl T.cl_Machine.n_place))
theorem ok_Machine_roll (T : Txt K mg A) : FnOk P w K mg base (L2N.CX P w) 1 T.f_Machine_roll.f T.f_Machine_roll.fd ["self", "word"] (spD K 2 (ph_Machine_roll A)) := by
  have sc := sc_Machine_roll
  refine fnD (b := psi_Machine_roll A) T.f_Machine_roll.F sc (fun cdv Ar outer s H E hr => ?_) (fun ds m R x h hl => dt_Machine_roll T.ad.toAdOk ds m R x h)
  exact psd_cons (psd_set (i := 2) sc.nd rfl (Or.inl rfl) (pd_op add_ (pd_fld (pd_var 0 (pv 0)) T.cl_Machine.cl T.cl_Machine.n_row) (pd_dispget2 (u1 hr) (ppd_cons (pd_str) (pd_fld (pd_var 0 (pv 0)) T.cl_Machine.cl T.cl_Machine.n_down) (ppd_cons (pd_str) (pd_un neg_ (pd_int)) (ppd_nil))) rfl rfl (fun z => nomatch z) (by decide) (pd_var 1 (pv 1)) (pd_int) ⟨rfl, rfl, rfl, rfl⟩))) (psd_cons (psd_if (ptd_not (ptd_chain le_ le_ (pd_int) (pd_var 2 (pv 2)) (pd_gi T.g_ROWS (by rfl)))) (psd_one (psd_ret (pd_tup (pad_cons (pd_str) (pad_nil))))) (psd_nil)) (psd_cons (psd_fld (pd_var 0 (pv 0)) (pd_var 2 (pv 2)) T.cl_Machine.cl T.cl_Machine.n_row) (psd_cons (psd_if (ptd_cmp (eq_ (u64 hr)) (pd_var 1 (pv 1)) (pd_str) (nomark _)) (psd_cons (psd_fld (pd_var 0 (pv 0)) (pd_fld (pd_var 0 (pv 0)) T.cl_Machine.cl T.cl_Machine.n_low) T.cl_Machine.cl T.cl_Machine.n_place) (psd_one (psd_fld (pd_var 0 (pv 0)) (pd_bl) T.cl_Machine.cl T.cl_Machine.n_is_free))) (psd_nil)) (psd_one (psd_ret (pd_tup (pad_cons (pd_str) (pad_cons (pd_var 2 (pv 2)) (pad_cons (pd_fld (pd_var 0 (pv 0)) T.cl_Machine.cl T.cl_Machine.n_place) (pad_nil))))))))))
theorem ok_Machine_set_up (T : Txt K mg A) : FnOk P w K mg base (L2N.CX P w) 1 T.f_Machine_set_up.f T.f_Machine_set_up.fd ["self", "word"] (spD K 2 (ph_Machine_set_up A)) := by
  have sc := sc_Machine_set_up
  refine fnD (b := psi_Machine_set_up A) T.f_Machine_set_up.F sc (fun cdv Ar outer s H E hr => ?_) (fun ds m R x h hl => dt_Machine_set_up T.ad.toAdOk ds m R x h)
  exact psd_cons (psd_if (PW.pt (pwd_and (ptd_cmp (eq_ (u64 hr)) (pd_var 1 (pv 1)) (pd_str) (nomark _)) (pwd_and1 (ptd_cmp lt_ (pd_fld (pd_var 0 (pv 0)) T.cl_Machine.cl T.cl_Machine.n_place) (pd_fld (pd_var 0 (pv 0)) T.cl_Machine.cl T.cl_Machine.n_high) (nomark _))))) (psd_one (psd_fld (pd_var 0 (pv 0)) (pd_fld (pd_var 0 (pv 0)) T.cl_Machine.cl T.cl_Machine.n_place) T.cl_Machine.cl T.cl_Machine.n_low)) (psd_one (psd_if (PW.pt (pwd_and (ptd_cmp (eq_ (u64 hr)) (pd_var 1 (pv 1)) (pd_str) (nomark _)) (pwd_and1 (ptd_cmp gt_ (pd_fld (pd_var 0 (pv 0)) T.cl_Machine.cl T.cl_Machine.n_place) (pd_fld (pd_var 0 (pv 0)) T.cl_Machine.cl T.cl_Machine.n_low) (nomark _))))) (psd_one (psd_fld (pd_var 0 (pv 0)) (pd_fld (pd_var 0 (pv 0)) T.cl_Machine.cl T.cl_Machine.n_place) T.cl_Machine.cl T.cl_Machine.n_high)) (psd_one (psd_if (ptd_cmp (eq_ (u64 hr)) (pd_var 1 (pv 1)) (pd_str) (nomark _)) (psd_one (psd_fld (pd_var 0 (pv 0)) (pd_srtSetI rfl (by rfl) T.b_sorted (by rfl) T.b_set (pd_op add_ (pd_fld (pd_var 0 (pv 0)) T.cl_Machine.cl T.cl_Machine.n_tabs) (pd_lst (pad_cons (pd_fld (pd_var 0 (pv 0)) T.cl_Machine.cl T.cl_Machine.n_place) (pad_nil))))) T.cl_Machine.cl T.cl_Machine.n_tabs)) (psd_one (psd_if (PW.pt (pwd_and (ptd_cmp (eq_ (u64 hr)) (pd_var 1 (pv 1)) (pd_str) (nomark _)) (pwd_and1 (ptd_cmp (in_ (u65 hr)) (pd_fld (pd_var 0 (pv 0)) T.cl_Machine.cl T.cl_Machine.n_place) (pd_fld (pd_var 0 (pv 0)) T.cl_Machine.cl T.cl_Machine.n_tabs) (by rfl))))) (psd_one (psd_expr (pd_mt PySem.F.plainAttrs_list PySem.F.slot_list_remove PySem.F.type_list_remove remI_ (pd_fld (pd_var 0 (pv 0)) T.cl_Machine.cl T.cl_Machine.n_tabs) (pad_cons (pd_fld (pd_var 0 (pv 0)) T.cl_Machine.cl T.cl_Machine.n_place) (pad_nil))))) (psd_one (psd_if (ptd_cmp (eq_ (u64 hr)) (pd_var 1 (pv 1)) (pd_str) (nomark _)) (psd_one (psd_fld (pd_var 0 (pv 0)) (pd_lst (pad_nil)) T.cl_Machine.cl T.cl_Machine.n_tabs)) (psd_one (psd_if (ptd_cmp (eq_ (u64 hr)) (pd_var 1 (pv 1)) (pd_str) (nomark _)) (psd_one (psd_fld (pd_var 0 (pv 0)) (pd_bl) T.cl_Machine.cl T.cl_Machine.n_is_free)) (psd_one (psd_if (ptd_cmp (eq_ (u64 hr)) (pd_var 1 (pv 1)) (pd_str) (nomark _)) (psd_one (psd_fld (pd_var 0 (pv 0)) (pd_if (ptd_cmp (eq_ (u64 hr)) (pd_fld (pd_var 0 (pv 0)) T.cl_Machine.cl T.cl_Machine.n_colour) (pd_str) (nomark _)) (pd_str) (pd_str)) T.cl_Machine.cl T.cl_Machine.n_colour)) (psd_one (psd_if (ptd_cmp (eq_ (u64 hr)) (pd_var 1 (pv 1)) (pd_str) (nomark _)) (psd_one (psd_fld (pd_var 0 (pv 0)) (pd_not (pd_fld (pd_var 0 (pv 0)) T.cl_Machine.cl T.cl_Machine.n_caps)) T.cl_Machine.cl T.cl_Machine.n_caps)) (psd_one (psd_ret (pd_tup (pad_cons (pd_str) (pad_nil)))))))))))))))))))) (psd_one (psd_ret (pd_tup (pad_cons (pd_str) (pad_nil)))))
theorem ok_Machine_stand (T : Txt K mg A) : FnOk P w K mg base (L2N.CX P w) 1 T.f_Machine_stand.f T.f_Machine_stand.fd ["self"] (spD K 1 (ph_Machine_stand A)) := by
  have sc := sc_Machine_stand
  refine fnD (b := psi_Machine_stand A) T.f_Machine_stand.F sc (fun cdv Ar outer s H E hr => ?_) (fun ds m R x h hl => dt_Machine_stand T.ad.toAdOk ds m R x h)
  exact psd_cons (psd_set (i := 1) sc.nd rfl (Or.inl rfl) (pd_tup (pad_cons (pd_fld (pd_var 0 (pv 0)) T.cl_Machine.cl T.cl_Machine.n_row) (pad_cons (pd_fld (pd_var 0 (pv 0)) T.cl_Machine.cl T.cl_Machine.n_place) (pad_cons (pd_fld (pd_var 0 (pv 0)) T.cl_Machine.cl T.cl_Machine.n_low) (pad_cons (pd_fld (pd_var 0 (pv 0)) T.cl_Machine.cl T.cl_Machine.n_high) (pad_nil))))))) (psd_one (psd_ret (pd_op add_ (pd_var 1 (pv 1)) (pd_tup (pad_cons (pd_callTy tuple_ (by rfl) T.b_tuple (by decide +kernel) (pad_cons (pd_fld (pd_var 0 (pv 0)) T.cl_Machine.cl T.cl_Machine.n_tabs) (pad_nil))) (pad_cons (pd_fld (pd_var 0 (pv 0)) T.cl_Machine.cl T.cl_Machine.n_colour) (pad_cons (pd_fld (pd_var 0 (pv 0)) T.cl_Machine.cl T.cl_Machine.n_caps) (pad_cons (pd_fld (pd_var 0 (pv 0)) T.cl_Machine.cl T.cl_Machine.n_is_free) (pad_nil)))))))))
theorem ok__law_cell_at (T : Txt K mg A) : FnOk P w K mg base (L2N.CX P w) 1 T.f__law_cell_at.f T.f__law_cell_at.fd ["script", "k"] (spD K 2 (ph__law_cell_at A)) := by
  have sc := sc__law_cell_at
  refine fnD (b := psi__law_cell_at A) T.f__law_cell_at.F sc (fun cdv Ar outer s H E hr => ?_) (fun ds m R x h hl => dt__law_cell_at T.ad.toAdOk ds m R x h)
  exact psd_cons (psd_if (ptd_cmp lt_ (pd_var 1 (pv 1)) (pd_callB (len_) (by rfl) T.b_len (by decide +kernel) (pad_cons (pd_var 0 (pv 0)) (pad_nil))) (nomark _)) (psd_one (psd_ret (pd_ix ix_ (pd_var 0 (pv 0)) (pd_var 1 (pv 1)) (fun _ _ => rfl)))) (psd_nil)) (psd_cons (psd_if (ptd_cmp (eqS_ (u64 hr)) (pd_var 0 (pv 0)) (pd_lst (pad_nil)) (nomark _)) (psd_one (psd_ret (pd_int))) (psd_nil)) (psd_one (psd_ret (pd_op add_ (pd_op mul_ (pd_ix ix_ (pd_var 0 (pv 0)) (pd_op mod_ (pd_var 1 (pv 1)) (pd_callB (len_) (by rfl) T.b_len (by decide +kernel) (pad_cons (pd_var 0 (pv 0)) (pad_nil)))) (fun _ _ => rfl)) (pd_int)) (pd_var 1 (pv 1))))))
theorem ok__law_new (T : Txt K mg A) : FnOk P w K mg base (L2N.CX P w) 1 T.f__law_new.f T.f__law_new.fd ["machine", "tabs"] (spD K 2 (ph__law_new A)) := by
  have sc := sc__law_new
  refine fnD (b := psi__law_new A) T.f__law_new.F sc (fun cdv Ar outer s H E hr => ?_) (fun ds m R x h hl => dt__law_new T.ad.toAdOk ds m R x h)
  exact psd_cons (psd_set (i := 2) sc.nd rfl (Or.inl rfl) (pd_op mul_ (pd_int) (pd_ix ix_ (pd_var 0 (pv 0)) (pd_int) (fun _ _ => rfl)))) (psd_cons (psd_set (i := 3) sc.nd rfl (Or.inl rfl) (pd_disp (ppd_cons (pd_str) (pd_var 0 (pv 0)) (ppd_cons (pd_str) (pd_var 2 (pv 2)) (ppd_cons (pd_str) (pd_int) (ppd_cons (pd_str) (pd_int) (ppd_cons (pd_str) (pd_int) (ppd_cons (pd_str) (pd_var 2 (pv 2)) (ppd_cons (pd_str) (pd_callTy list_ (by rfl) T.b_list (by decide +kernel) (pad_cons (pd_var 1 (pv 1)) (pad_nil))) (ppd_nil)))))))) rfl rfl (fun z => nomatch z) (by decide))) (psd_cons (psd_expr (pd_mt PySem.F.plainAttrs_dict PySem.F.slot_dict_update PySem.F.type_dict_update update_ (pd_var 3 (pv 3)) (pad_cons (pd_disp (ppd_cons (pd_str) (pd_bl) (ppd_cons (pd_str) (pd_bl) (ppd_cons (pd_str) (pd_bl) (ppd_cons (pd_str) (pd_lst (pad_nil)) (ppd_cons (pd_str) (pd_lst (pad_nil)) (ppd_cons (pd_str) (pd_int) (ppd_nil))))))) rfl rfl (fun z => nomatch z) (by decide)) (pad_nil)))) (psd_one (psd_ret (pd_fgt (pd_var 3 (pv 3)))))))
theorem ok__law_shut (T : Txt K mg A) : FnOk P w K mg base (L2N.CX P w) 1 T.f__law_shut.f T.f__law_shut.fd ["work", "place"] (spD K 2 (ph__law_shut A)) := by
  have sc := sc__law_shut
  refine fnD (b := psi__law_shut A) T.f__law_shut.F sc (fun cdv Ar outer s H E hr => ?_) (fun ds m R x h hl => dt__law_shut T.ad.toAdOk ds m R x h)
  exact psd_one (psd_ret (pd_or (pd_cmp gt_ (pd_var 1 (pv 1)) (pd_dget (u1 hr) (pd_var 0 (pv 0)) (pd_str) (fun _ _ => rfl)) (nomark _)) (pd_one (pd_and (pd_not (pd_dget (u1 hr) (pd_var 0 (pv 0)) (pd_str) (fun _ _ => rfl))) (pd_one (pd_cmp gt_ (pd_var 1 (pv 1)) (pd_dget (u1 hr) (pd_var 0 (pv 0)) (pd_str) (fun _ _ => rfl)) (nomark _)))))))
theorem ok__law_go (T : Txt K mg A) : FnOk P w K mg base (L2N.CX P w) 1 T.f__law_go.f T.f__law_go.fd ["work", "place"] (spD K 2 (ph__law_go A)) := by
  have sc := sc__law_go
  refine fnD (b := psi__law_go A) T.f__law_go.F sc (fun cdv Ar outer s H E hr => ?_) (fun ds m R x h hl => dt__law_go T.ad.toAdOk ds m R x h)
  exact psd_cons (psd_set (i := 2) sc.nd rfl (Or.inl rfl) (pd_op sub_ (pd_dget (u1 hr) (pd_var 0 (pv 0)) (pd_str) (fun _ _ => rfl)) (pd_int))) (psd_cons (psd_if (PW.pt (pwd_and (ptd_cmp lt_ (pd_dget (u1 hr) (pd_var 0 (pv 0)) (pd_str) (fun _ _ => rfl)) (pd_var 2 (pv 2)) (nomark _)) (pwd_and1 (ptd_cmp ge_ (pd_var 1 (pv 1)) (pd_var 2 (pv 2)) (nomark _))))) (psd_one (psd_expr (pd_mt PySem.F.plainAttrs_list PySem.F.slot_list_append PySem.F.type_list_append append_ (pd_dget (u1 hr) (pd_var 0 (pv 0)) (pd_str) (fun _ _ => rfl)) (pad_cons (pd_dget (u1 hr) (pd_var 0 (pv 0)) (pd_str) (fun _ _ => rfl)) (pad_nil))))) (psd_nil)) (psd_cons (psd_dput (u1 hr) (pd_var 0 (pv 0)) (pd_str) (pd_var 1 (pv 1))) (psd_one (psd_ret (pd_tup (pad_cons (pd_str) (pad_cons (pd_dget (u1 hr) (pd_var 0 (pv 0)) (pd_str) (fun _ _ => rfl)) (pad_cons (pd_var 1 (pv 1)) (pad_nil)))))))))
theorem ok__law_as (T : Txt K mg A) : FnOk P w K mg base (L2N.CX P w) 1 T.f__law_as.f T.f__law_as.fd ["work", "sign"] (spD K 2 (ph__law_as A)) := by
  have sc := sc__law_as
  refine fnD (b := psi__law_as A) T.f__law_as.F sc (fun cdv Ar outer s H E hr => ?_) (fun ds m R x h hl => dt__law_as T.ad.toAdOk ds m R x h)
  exact psd_one (psd_ret (pd_if (ptd_val (pd_dget (u1 hr) (pd_var 0 (pv 0)) (pd_str) (fun _ _ => rfl))) (pd_mt0 PySem.F.plainAttrs_str PySem.F.slot_str_upper PySem.F.type_str_upper upper_ (pd_var 1 (pv 1))) (pd_var 1 (pv 1))))
theorem ok__law_turn (T : Txt K mg A) : FnOk P w K mg base (L2N.CX P w) 1 T.f__law_turn.f T.f__law_turn.fd ["work", "word"] (spD K 2 (ph__law_turn A)) := by
  have sc := sc__law_turn
  refine fnD (b := psi__law_turn A) T.f__law_turn.F sc (fun cdv Ar outer s H E hr => ?_) (fun ds m R x h hl => dt__law_turn T.ad.toAdOk ds m R x h)
  exact psd_cons (psd_set (i := 2) sc.nd rfl (Or.inr rfl) (pd_dget (u1 hr) (pd_var 0 (pv 0)) (pd_str) (fun _ _ => rfl))) (psd_cons (psd_if (PW.pt (pwd_and (ptd_cmp (eq_ (u64 hr)) (pd_var 1 (pv 1)) (pd_str) (nomark _)) (pwd_and1 (ptd_cmp lt_ (pd_var 2 (pv 2)) (pd_dget (u1 hr) (pd_var 0 (pv 0)) (pd_str) (fun _ _ => rfl)) (nomark _))))) (psd_one (psd_dput (u1 hr) (pd_var 0 (pv 0)) (pd_str) (pd_var 2 (pv 2)))) (psd_one (psd_if (PW.pt (pwd_and (ptd_cmp (eq_ (u64 hr)) (pd_var 1 (pv 1)) (pd_str) (nomark _)) (pwd_and1 (ptd_cmp gt_ (pd_var 2 (pv 2)) (pd_dget (u1 hr) (pd_var 0 (pv 0)) (pd_str) (fun _ _ => rfl)) (nomark _))))) (psd_one (psd_dput (u1 hr) (pd_var 0 (pv 0)) (pd_str) (pd_var 2 (pv 2)))) (psd_one (psd_if (ptd_cmp (eq_ (u64 hr)) (pd_var 1 (pv 1)) (pd_str) (nomark _)) (psd_one (psd_dput (u1 hr) (pd_var 0 (pv 0)) (pd_str) (pd_op add_ (pd_lc (own := [("tab", 4)]) rfl sc.nd (g_name 4) (lcw_name (by decide)) (pid_seq (pd_dget (u1 hr) (pd_var 0 (pv 0)) (pd_str) (fun _ _ => rfl))) (blkOk_by (N := N__law_turn) (sc := defScope s__law_turn) (by decide +kernel)) (fun _ _ _ _ _ => pg_name (i := 4) sc.nd rfl (by first | exact Or.inl rfl | exact Or.inr rfl)) (fun _ _ _ _ _ => pts_one (ptd_cmp (ne_ (u64 hr)) (pd_var 4 (pv 4)) (pd_var 2 (pv 2)) (nomark _))) (fun _ _ _ _ _ => pd_var 4 (pv 4))) (pd_lst (pad_cons (pd_var 2 (pv 2)) (pad_nil)))))) (psd_one (psd_if (PW.pt (pwd_and (ptd_cmp (eq_ (u64 hr)) (pd_var 1 (pv 1)) (pd_str) (nomark _)) (pwd_and1 (ptd_cmp (in_ (u65 hr)) (pd_var 2 (pv 2)) (pd_dget (u1 hr) (pd_var 0 (pv 0)) (pd_str) (fun _ _ => rfl)) (by rfl))))) (psd_one (psd_dput (u1 hr) (pd_var 0 (pv 0)) (pd_str) (pd_lc (own := [("tab", 4)]) rfl sc.nd (g_name 4) (lcw_name (by decide)) (pid_seq (pd_dget (u1 hr) (pd_var 0 (pv 0)) (pd_str) (fun _ _ => rfl))) (blkOk_by (N := N__law_turn) (sc := defScope s__law_turn) (by decide +kernel)) (fun _ _ _ _ _ => pg_name (i := 4) sc.nd rfl (by first | exact Or.inl rfl | exact Or.inr rfl)) (fun _ _ _ _ _ => pts_one (ptd_cmp (ne_ (u64 hr)) (pd_var 4 (pv 4)) (pd_var 2 (pv 2)) (nomark _))) (fun _ _ _ _ _ => pd_var 4 (pv 4))))) (psd_one (psd_if (ptd_cmp (in_ (u65 hr)) (pd_var 1 (pv 1)) (pd_tup (pad_cons (pd_str) (pad_cons (pd_str) (pad_cons (pd_str) (pad_nil))))) (by rfl)) (psd_one (psd_ret (pd_tup (pad_cons (pd_str) (pad_nil))))) (psd_one (psd_if (ptd_cmp (eq_ (u64 hr)) (pd_var 1 (pv 1)) (pd_str) (nomark _)) (psd_one (psd_dput (u1 hr) (pd_var 0 (pv 0)) (pd_str) (pd_lst (pad_nil)))) (psd_cons (psd_set (i := 3) sc.nd rfl (Or.inl rfl) (pd_dispget (u1 hr) (ppd_cons (pd_str) (pd_str) (ppd_cons (pd_str) (pd_str) (ppd_cons (pd_str) (pd_str) (ppd_nil)))) rfl rfl (fun z => nomatch z) (by decide) (pd_var 1 (pv 1)) (fun _ _ => rfl))) (psd_one (psd_dput (u1 hr) (pd_var 0 (pv 0)) (pd_var 3 (pv 3)) (pd_or (pd_cmp (eq_ (u64 hr)) (pd_var 1 (pv 1)) (pd_str) (nomark _)) (pd_one (pd_not (pd_dget (u1 hr) (pd_var 0 (pv 0)) (pd_var 3 (pv 3)) (fun _ _ => rfl))))))))))))))))))) (psd_one (psd_ret (pd_tup (pad_cons (pd_str) (pad_nil))))))
theorem ok__law_marks (T : Txt K mg A) : FnOk P w K mg base (L2N.CX P w) 1 T.f__law_marks.f T.f__law_marks.fd ["work"] (spD K 1 (ph__law_marks A)) := by
  have sc := sc__law_marks
  refine fnD (b := psi__law_marks A) T.f__law_marks.F sc (fun cdv Ar outer s H E hr => ?_) (fun ds m R x h hl => dt__law_marks T.ad.toAdOk ds m R x h)
  exact psd_cons (psd_set (i := 1) sc.nd rfl (Or.inl rfl) (pd_callB (sortD_ (u65 hr)) (by rfl) T.b_sorted (by decide +kernel) (pad_cons (pd_lc (own := [("mark", 2)]) rfl sc.nd (g_name 2) (lcw_name (by decide)) (pid_seq (pd_dget (u1 hr) (pd_var 0 (pv 0)) (pd_str) (fun _ _ => rfl))) (blkOk_by (N := N__law_marks) (sc := defScope s__law_marks) (by decide +kernel)) (fun _ _ _ _ _ => pg_name (i := 2) sc.nd rfl (by first | exact Or.inl rfl | exact Or.inr rfl)) (fun _ _ _ _ _ => ptsd_nil) (fun _ _ _ _ _ => pd_tup (pad_cons (pd_ix ix_ (pd_var 2 (pv 2)) (pd_int) (fun _ _ => rfl)) (pad_cons (pd_ix ix_ (pd_var 2 (pv 2)) (pd_int) (fun _ _ => rfl)) (pad_cons (pd_ix ix_ (pd_var 2 (pv 2)) (pd_int) (fun _ _ => rfl)) (pad_cons (pd_var 2 (pv 2)) (pad_nil))))))) (pad_nil)))) (psd_one (psd_ret (pd_lc (own := [("row", 3), ("place", 4), ("number", 5), ("mark", 2)]) rfl sc.nd (g_tup [3, 4, 5, 2]) (lcw_tup (by decide)) (pid_seq (pd_var 1 (pv 1))) (blkOk_by (N := N__law_marks) (sc := defScope s__law_marks) (by decide +kernel)) (fun _ _ _ _ _ => pg_tup rfl (pgs_cons (pg_name (i := 3) sc.nd rfl (by first | exact Or.inl rfl | exact Or.inr rfl)) (pgs_cons (pg_name (i := 4) sc.nd rfl (by first | exact Or.inl rfl | exact Or.inr rfl)) (pgs_cons (pg_name (i := 5) sc.nd rfl (by first | exact Or.inl rfl | exact Or.inr rfl)) (pgs_cons (pg_name (i := 2) sc.nd rfl (by first | exact Or.inl rfl | exact Or.inr rfl)) (pgs_nil)))))) (fun _ _ _ _ _ => ptsd_nil) (fun _ _ _ _ _ => pd_var 2 (pv 2)))))
theorem okw {Dc : Addr} {i : Nat} (hi : i < 10) (T : Txt K mg A) (C : L2.ExcC K Dc) (htab : ∀ c v, tabE A i c = some v → ∃ u, clsVal c = some u ∧ PySem.W.kitOne K (.ref Dc) u = some v) : FnW P w K mg base 1 T.f__law_which.f T.f__law_which.fd Dc (refD i) := by
  have sc := sc__law_which
  refine fnW (b := psi__law_which A i) T.f__law_which.F sc (fun cdv Ar outer s H p hr hz hf => ?_) (dt__law_which T.ad.toAdOk hi)
  have ea := p.1
  have exc := C
  exact psd_cons (psd_set (i := 1) sc.nd rfl (Or.inl rfl) (pd_lst (pad_cons (pd_callB (isE_ List.mem_cons_self exc hz hf htab) (by rfl) T.b_isinstance (by decide +kernel) (pad_cons (pd_var 0 (pv 0)) (pad_cons (pd_gr T.x_NoMachine.g (by rfl)) (pad_nil)))) (pad_cons (pd_callB (isE_ List.mem_cons_self exc hz hf htab) (by rfl) T.b_isinstance (by decide +kernel) (pad_cons (pd_var 0 (pv 0)) (pad_cons (pd_gr T.x_NoKeys.g (by rfl)) (pad_nil)))) (pad_cons (pd_callB (isE_ List.mem_cons_self exc hz hf htab) (by rfl) T.b_isinstance (by decide +kernel) (pad_cons (pd_var 0 (pv 0)) (pad_cons (pd_gr T.x_NoKey.g (by rfl)) (pad_nil)))) (pad_cons (pd_callB (isE_ List.mem_cons_self exc hz hf htab) (by rfl) T.b_isinstance (by decide +kernel) (pad_cons (pd_var 0 (pv 0)) (pad_cons (pd_gr T.x_NoPlace.g (by rfl)) (pad_nil)))) (pad_nil))))))) (psd_cons (psd_expr (pd_mt PySem.F.plainAttrs_list PySem.F.slot_list_extend PySem.F.type_list_extend extend_ (pd_var 1 (pv 1)) (pad_cons (pd_lst (pad_cons (pd_callB (isE_ List.mem_cons_self exc hz hf htab) (by rfl) T.b_isinstance (by decide +kernel) (pad_cons (pd_var 0 (pv 0)) (pad_cons (pd_gr T.x_NoGoal.g (by rfl)) (pad_nil)))) (pad_cons (pd_callB (isE_ List.mem_cons_self exc hz hf htab) (by rfl) T.b_isinstance (by decide +kernel) (pad_cons (pd_var 0 (pv 0)) (pad_cons (pd_gr T.x_NoStrikes.g (by rfl)) (pad_nil)))) (pad_cons (pd_callB (isE_ List.mem_cons_self exc hz hf htab) (by rfl) T.b_isinstance (by decide +kernel) (pad_cons (pd_var 0 (pv 0)) (pad_cons (pd_gr T.x_NoText.g (by rfl)) (pad_nil)))) (pad_cons (pd_callB (isE_ List.mem_cons_self exc hz hf htab) (by rfl) T.b_isinstance (by decide +kernel) (pad_cons (pd_var 0 (pv 0)) (pad_cons (pd_gr T.x_NoNumbers.g (by rfl)) (pad_nil)))) (pad_nil)))))) (pad_nil)))) (psd_cons (psd_expr (pd_mt PySem.F.plainAttrs_list PySem.F.slot_list_extend PySem.F.type_list_extend extend_ (pd_var 1 (pv 1)) (pad_cons (pd_lst (pad_cons (pd_callB (isE_ List.mem_cons_self exc hz hf htab) (by rfl) T.b_isinstance (by decide +kernel) (pad_cons (pd_var 0 (pv 0)) (pad_cons (pd_gr T.x_TooWide.g (by rfl)) (pad_nil)))) (pad_cons (pd_callB (isE_ List.mem_cons_self exc hz hf htab) (by rfl) T.b_isinstance (by decide +kernel) (pad_cons (pd_var 0 (pv 0)) (pad_cons (pd_gr T.x_Nothing.g (by rfl)) (pad_nil)))) (pad_nil)))) (pad_nil)))) (psd_cons (psd_if (PW.pt (pwd_or (ptd_cmp (ne_ (u64h hr)) (pd_mt PySem.F.plainAttrs_list PySem.F.slot_list_count PySem.F.type_list_count count_ (pd_var 1 (pv 1)) (pad_cons (pd_bl) (pad_nil))) (pd_int) (nomark _)) (pwd_or1 (ptd_not (ptd_val (pd_callB (isE_ List.mem_cons_self exc hz hf htab) (by rfl) T.b_isinstance (by decide +kernel) (pad_cons (pd_var 0 (pv 0)) (pad_cons (pd_bty T.b_ValueError (by decide +kernel) (by rfl)) (pad_nil))))))))) (psd_one (psd_ret (pd_fgt (pd_tup (pad_cons (pd_str) (pad_cons (pd_un neg_ (pd_int)) (pad_nil))))))) (psd_nil)) (psd_one (psd_ret (pd_fgt (pd_tup (pad_cons (pd_str) (pad_cons (pd_mt PySem.F.plainAttrs_list PySem.F.slot_list_index PySem.F.type_list_index index_ (pd_var 1 (pv 1)) (pad_cons (pd_bl) (pad_nil))) (pad_nil))))))))))
theorem wh_ok (T : Txt K mg A) : ∀ C v, wh A C = some v → PySem.W.exmOne K (.ref C) (.ref A.xInkError) = some true ∧ FnW P w K mg base 1 T.f__law_which.f T.f__law_which.fd C v := by
  intro C v h
  unfold wh at h
  split at h
  · rename_i e; subst e; cases h; exact ⟨T.e_NoStrikes, okw (by decide) T T.c_NoStrikes T.t_NoStrikes⟩
  cases h
theorem ok_is_machine (T : Txt K mg A) : FnOk P w K mg base (L2N.CX P w) 2 T.f_is_machine.f T.f_is_machine.fd ["thing"] (spD K 1 (ph_is_machine A)) := by
  have sc := sc_is_machine
  refine fnD (b := psi_is_machine A) T.f_is_machine.F sc (fun cdv Ar outer s H E hr => ?_) (fun ds m R x h hl => dt_is_machine T.ad.toAdOk ds m R x h)
  have tk := L2N.takes_of (X := cxD P w K mg base N_is_machine "is_machine" s_is_machine T.f_is_machine.f cdv Ar outer s H E) (E := E) rfl rfl rfl rfl
  exact psd_cons (psd_if (PW.pt (pwd_or (ptd_not (ptd_val (pd_callB (isi_) (by rfl) T.b_isinstance (by decide +kernel) (pad_cons (pd_var 0 (pv 0)) (pad_cons (pd_bty T.b_tuple (by decide +kernel) (by rfl)) (pad_nil)))))) (pwd_or (ptd_cmp (ne_ (u64 hr)) (pd_callB (len_) (by rfl) T.b_len (by decide +kernel) (pad_cons (pd_var 0 (pv 0)) (pad_nil))) (pd_int) (nomark _)) (pwd_or1 (ptd_not (ptd_val (pd_call (ok_is_whole T) (hr.mono (by decide)) tk (by rfl) T.gf_is_whole T.f_is_whole.F.kp T.f_is_whole.b (pad_cons (pd_ix ix_ (pd_var 0 (pv 0)) (pd_int) (fun _ _ => rfl)) (pad_cons (pd_gi T.g_LEAST (by rfl)) (pad_cons (pd_gi T.g_WIDEST (by rfl)) (pad_nil))))))))))) (psd_one (psd_ret (pd_bl))) (psd_nil)) (psd_cons (psd_if (PW.pt (pwd_or (ptd_not (ptd_val (pd_callB (isi_) (by rfl) T.b_isinstance (by decide +kernel) (pad_cons (pd_ix ix_ (pd_var 0 (pv 0)) (pd_int) (fun _ _ => rfl)) (pad_cons (pd_bty T.b_tuple (by decide +kernel) (by rfl)) (pad_nil)))))) (pwd_or1 (ptd_not (ptd_val (pd_callB (all_ rfl) (by rfl) T.b_all (by decide +kernel) (pad_cons (pd_lc (own := [("sign", 1)]) rfl sc.nd (g_name 1) (lcw_name (by decide)) (pid_seq (pd_ix ix_ (pd_var 0 (pv 0)) (pd_int) (fun _ _ => rfl))) (blkOk_by (N := N_is_machine) (sc := defScope s_is_machine) (by decide +kernel)) (fun _ _ _ _ _ => pg_name (i := 1) sc.nd rfl (by first | exact Or.inl rfl | exact Or.inr rfl)) (fun _ _ _ _ _ => ptsd_nil) (fun _ _ _ _ _ => pd_call (ok_is_one_of T) (hr.mono (by decide)) takesN0 (by rfl) T.gf_is_one_of T.f_is_one_of.F.kp T.f_is_one_of.b (pad_cons (pd_var 1 (pv 1)) (pad_cons (pd_gs T.g_DEAD (by rfl)) (pad_nil))))) (pad_nil)))))))) (psd_one (psd_ret (pd_bl))) (psd_nil)) (psd_one (psd_ret (pd_and (pd_call (ok_is_rising T) (hr.mono (by decide)) tk (by rfl) T.gf_is_rising T.f_is_rising.F.kp T.f_is_rising.b (pad_cons (pd_ix ix_ (pd_var 0 (pv 0)) (pd_int) (fun _ _ => rfl)) (pad_nil))) (pd_one (pd_call (ok_is_whole T) (hr.mono (by decide)) tk (by rfl) T.gf_is_whole T.f_is_whole.F.kp T.f_is_whole.b (pad_cons (pd_ix ix_ (pd_var 0 (pv 0)) (pd_int) (fun _ _ => rfl)) (pad_cons (pd_int) (pad_cons (pd_int) (pad_nil))))))))))
theorem ok_is_key (T : Txt K mg A) : FnOk P w K mg base (L2N.CX P w) 2 T.f_is_key.f T.f_is_key.fd ["thing"] (spD K 1 (ph_is_key A)) := by
  have sc := sc_is_key
  refine fnD (b := psi_is_key A) T.f_is_key.F sc (fun cdv Ar outer s H E hr => ?_) (fun ds m R x h hl => dt_is_key T.ad.toAdOk ds m R x h)
  have tk := L2N.takes_of (X := cxD P w K mg base N_is_key "is_key" s_is_key T.f_is_key.f cdv Ar outer s H E) (E := E) rfl rfl rfl rfl
  exact psd_cons (psd_if (PW.pt (pwd_or (ptd_not (ptd_val (pd_callB (isi_) (by rfl) T.b_isinstance (by decide +kernel) (pad_cons (pd_var 0 (pv 0)) (pad_cons (pd_bty T.b_tuple (by decide +kernel) (by rfl)) (pad_nil)))))) (pwd_or (ptd_cmp (eq_ (u64 hr)) (pd_var 0 (pv 0)) (pd_tup (pad_nil)) (nomark _)) (pwd_or1 (ptd_not (ptd_val (pd_callB (isi_) (by rfl) T.b_isinstance (by decide +kernel) (pad_cons (pd_ix ix_ (pd_var 0 (pv 0)) (pd_int) (fun _ _ => rfl)) (pad_cons (pd_bty T.b_str (by decide +kernel) (by rfl)) (pad_nil)))))))))) (psd_one (psd_ret (pd_bl))) (psd_nil)) (psd_cons (psd_if (ptd_cmp (in_ (u65 hr)) (pd_ix ix_ (pd_var 0 (pv 0)) (pd_int) (fun _ _ => rfl)) (pd_tup (pad_cons (pd_str) (pad_cons (pd_str) (pad_nil)))) (by rfl)) (psd_one (psd_ret (pd_and (pd_cmp (eq_ (u64 hr)) (pd_callB (len_) (by rfl) T.b_len (by decide +kernel) (pad_cons (pd_var 0 (pv 0)) (pad_nil))) (pd_int) (nomark _)) (pd_one (pd_call (ok_is_one_of T) (hr.mono (by decide)) tk (by rfl) T.gf_is_one_of T.f_is_one_of.F.kp T.f_is_one_of.b (pad_cons (pd_ix ix_ (pd_var 0 (pv 0)) (pd_int) (fun _ _ => rfl)) (pad_cons (pd_gs T.g_SIGNS (by rfl)) (pad_nil)))))))) (psd_nil)) (psd_one (psd_ret (pd_and (pd_cmp (eq_ (u64 hr)) (pd_callB (len_) (by rfl) T.b_len (by decide +kernel) (pad_cons (pd_var 0 (pv 0)) (pad_nil))) (pd_int) (nomark _)) (pd_one (pd_cmp (in_ (u65 hr)) (pd_ix ix_ (pd_var 0 (pv 0)) (pd_int) (fun _ _ => rfl)) (pd_op add_ (pd_gt T.g_MOVES (by rfl)) (pd_gt T.g_TURNS (by rfl))) (by rfl)))))))
theorem ok_is_strike (T : Txt K mg A) : FnOk P w K mg base (L2N.CX P w) 2 T.f_is_strike.f T.f_is_strike.fd ["machine", "thing"] (spD K 2 (ph_is_strike A)) := by
  have sc := sc_is_strike
  refine fnD (b := psi_is_strike A) T.f_is_strike.F sc (fun cdv Ar outer s H E hr => ?_) (fun ds m R x h hl => dt_is_strike T.ad.toAdOk ds m R x h)
  have tk := L2N.takes_of (X := cxD P w K mg base N_is_strike "is_strike" s_is_strike T.f_is_strike.f cdv Ar outer s H E) (E := E) rfl rfl rfl rfl
  exact psd_cons (psd_if (PW.pt (pwd_or (ptd_not (ptd_val (pd_callB (isi_) (by rfl) T.b_isinstance (by decide +kernel) (pad_cons (pd_var 1 (pv 1)) (pad_cons (pd_bty T.b_tuple (by decide +kernel) (by rfl)) (pad_nil)))))) (pwd_or (ptd_cmp (ne_ (u64 hr)) (pd_callB (len_) (by rfl) T.b_len (by decide +kernel) (pad_cons (pd_var 1 (pv 1)) (pad_nil))) (pd_int) (nomark _)) (pwd_or1 (ptd_not (ptd_val (pd_call (ok_is_whole T) (hr.mono (by decide)) tk (by rfl) T.gf_is_whole T.f_is_whole.F.kp T.f_is_whole.b (pad_cons (pd_ix ix_ (pd_var 1 (pv 1)) (pd_int) (fun _ _ => rfl)) (pad_cons (pd_int) (pad_cons (pd_gi T.g_ROWS (by rfl)) (pad_nil))))))))))) (psd_one (psd_ret (pd_bl))) (psd_nil)) (psd_cons (psd_if (PW.pt (pwd_or (ptd_not (ptd_val (pd_call (ok_is_whole T) (hr.mono (by decide)) tk (by rfl) T.gf_is_whole T.f_is_whole.F.kp T.f_is_whole.b (pad_cons (pd_ix ix_ (pd_var 1 (pv 1)) (pd_int) (fun _ _ => rfl)) (pad_cons (pd_int) (pad_cons (pd_op sub_ (pd_call (ok_end_of T) (hr.mono (by decide)) tk (by rfl) T.gf_end_of T.f_end_of.F.kp T.f_end_of.b (pad_cons (pd_var 0 (pv 0)) (pad_nil))) (pd_int)) (pad_nil))))))) (pwd_or1 (ptd_not (ptd_val (pd_call (ok_is_one_of T) (hr.mono (by decide)) tk (by rfl) T.gf_is_one_of T.f_is_one_of.F.kp T.f_is_one_of.b (pad_cons (pd_ix ix_ (pd_var 1 (pv 1)) (pd_int) (fun _ _ => rfl)) (pad_cons (pd_op add_ (pd_gs T.g_SIGNS (by rfl)) (pd_gs T.g_GREAT (by rfl))) (pad_nil))))))))) (psd_one (psd_ret (pd_bl))) (psd_nil)) (psd_one (psd_ret (pd_and (pd_callB (isi_) (by rfl) T.b_isinstance (by decide +kernel) (pad_cons (pd_ix ix_ (pd_var 1 (pv 1)) (pd_int) (fun _ _ => rfl)) (pad_cons (pd_bty T.b_str (by decide +kernel) (by rfl)) (pad_nil)))) (pd_one (pd_cmp (in_ (u65 hr)) (pd_ix ix_ (pd_var 1 (pv 1)) (pd_int) (fun _ _ => rfl)) (pd_gt T.g_COLOURS (by rfl)) (by rfl)))))))
theorem ok_keys_of (T : Txt K mg A) : FnOk P w K mg base (L2N.CX P w) 2 T.f_keys_of.f T.f_keys_of.fd ["text"] (spD K 1 (ph_keys_of A)) := by
  have sc := sc_keys_of
  refine fnD (b := psi_keys_of A) T.f_keys_of.F sc (fun cdv Ar outer s H E hr => ?_) (fun ds m R x h hl => dt_keys_of T.ad.toAdOk ds m R x h)
  have tk := L2N.takes_of (X := cxD P w K mg base N_keys_of "keys_of" s_keys_of T.f_keys_of.f cdv Ar outer s H E) (E := E) rfl rfl rfl rfl
  exact psd_cons (psd_set (i := 1) sc.nd rfl (Or.inl rfl) (pd_lst (pad_nil))) (psd_cons (psd_for (L2.passes_of rfl) rfl (pid_seq (pd_var 0 (pv 0))) (pg_name (i := 2) sc.nd rfl (Or.inl rfl)) (g_name 2) (psd_one (psd_if (ptd_cmp (eq_ (u64 hr)) (pd_var 2 (pv 2)) (pd_str) (nomark _)) (psd_one (psd_expr (pd_mt PySem.F.plainAttrs_list PySem.F.slot_list_append PySem.F.type_list_append append_ (pd_var 1 (pv 1)) (pad_cons (pd_tup (pad_cons (pd_str) (pad_nil))) (pad_nil))))) (psd_one (psd_if (ptd_cmp (in_ (u65 hr)) (pd_var 2 (pv 2)) (pd_gs T.g_GREAT (by rfl)) (by rfl)) (psd_one (psd_expr (pd_mt PySem.F.plainAttrs_list PySem.F.slot_list_extend PySem.F.type_list_extend extend_ (pd_var 1 (pv 1)) (pad_cons (pd_lst (pad_cons (pd_tup (pad_cons (pd_str) (pad_nil))) (pad_cons (pd_call (ok_key_for T) (hr.mono (by decide)) tk (by rfl) T.gf_key_for T.f_key_for.F.kp T.f_key_for.b (pad_cons (pd_var 2 (pv 2)) (pad_nil))) (pad_cons (pd_tup (pad_cons (pd_str) (pad_nil))) (pad_nil))))) (pad_nil))))) (psd_one (psd_expr (pd_mt PySem.F.plainAttrs_list PySem.F.slot_list_append PySem.F.type_list_append append_ (pd_var 1 (pv 1)) (pad_cons (pd_tup (pad_cons (pd_str) (pad_cons (pd_var 2 (pv 2)) (pad_nil)))) (pad_nil)))))))))) (psd_one (psd_ret (pd_var 1 (pv 1)))))
theorem ok_Machine___init__ (T : Txt K mg A) : FnOk P w K mg base (L2N.CX P w) 2 T.f_Machine___init__.f T.f_Machine___init__.fd ["self", "machine", "tabs"] (spD K 3 (ph_Machine___init__ A)) := by
  have sc := sc_Machine___init__
  refine fnD (b := psi_Machine___init__ A) T.f_Machine___init__.F sc (fun cdv Ar outer s H E hr => ?_) (fun ds m R x h hl => dt_Machine___init__ T.ad.toAdOk ds m R x h)
  have tk := L2N.takes_of (X := cxD P w K mg base N_Machine___init__ "Machine.__init__" s_Machine___init__ T.f_Machine___init__.f cdv Ar outer s H E) (E := E) rfl rfl rfl rfl
  exact psd_cons (psd_fld (pd_var 0 (pv 0)) (pd_ix ix_ (pd_var 1 (pv 1)) (pd_int) (fun _ _ => rfl)) T.cl_Machine.cl T.cl_Machine.n_dead) (psd_cons (psd_fld (pd_var 0 (pv 0)) (pd_ix ix_ (pd_var 1 (pv 1)) (pd_int) (fun _ _ => rfl)) T.cl_Machine.cl T.cl_Machine.n_down) (psd_cons (psd_fld (pd_var 0 (pv 0)) (pd_call (ok_end_of T) (hr.mono (by decide)) tk (by rfl) T.gf_end_of T.f_end_of.F.kp T.f_end_of.b (pad_cons (pd_var 1 (pv 1)) (pad_nil))) T.cl_Machine.cl T.cl_Machine.n_end) (psd_cons (psd_fld (pd_var 0 (pv 0)) (pd_int) T.cl_Machine.cl T.cl_Machine.n_row) (psd_cons (psd_fld (pd_var 0 (pv 0)) (pd_int) T.cl_Machine.cl T.cl_Machine.n_place) (psd_cons (psd_fld (pd_var 0 (pv 0)) (pd_int) T.cl_Machine.cl T.cl_Machine.n_low) (psd_cons (psd_fld (pd_var 0 (pv 0)) (pd_fld (pd_var 0 (pv 0)) T.cl_Machine.cl T.cl_Machine.n_end) T.cl_Machine.cl T.cl_Machine.n_high) (psd_cons (psd_fld (pd_var 0 (pv 0)) (pd_callTy list_ (by rfl) T.b_list (by decide +kernel) (pad_cons (pd_var 2 (pv 2)) (pad_nil))) T.cl_Machine.cl T.cl_Machine.n_tabs) (psd_cons (psd_fld (pd_var 0 (pv 0)) (pd_str) T.cl_Machine.cl T.cl_Machine.n_colour) (psd_cons (psd_fld (pd_var 0 (pv 0)) (pd_bl) T.cl_Machine.cl T.cl_Machine.n_caps) (psd_cons (psd_fld (pd_var 0 (pv 0)) (pd_bl) T.cl_Machine.cl T.cl_Machine.n_is_free) (psd_cons (psd_fld (pd_var 0 (pv 0)) (pd_lst (pad_nil)) T.cl_Machine.cl T.cl_Machine.n_marks) (psd_cons (psd_fld (pd_var 0 (pv 0)) (pd_lst (pad_nil)) T.cl_Machine.cl T.cl_Machine.n_rings) (psd_one (psd_fld (pd_var 0 (pv 0)) (pd_int) T.cl_Machine.cl T.cl_Machine.n_many))))))))))))))
theorem ok_Machine_strike (T : Txt K mg A) : FnOk P w K mg base (L2N.CX P w) 2 T.f_Machine_strike.f T.f_Machine_strike.fd ["self", "sign"] (spD K 2 (ph_Machine_strike A)) := by
  have sc := sc_Machine_strike
  refine fnD (b := psi_Machine_strike A) T.f_Machine_strike.F sc (fun cdv Ar outer s H E hr => ?_) (fun ds m R x h hl => dt_Machine_strike T.ad.toAdOk ds m R x h)
  have tk := L2N.takes_of (X := cxD P w K mg base N_Machine_strike "Machine.strike" s_Machine_strike T.f_Machine_strike.f cdv Ar outer s H E) (E := E) rfl rfl rfl rfl
  exact psd_cons (psd_if (ptd_val (pd_meth (pd_var 0 (pv 0)) T.cl_Machine.cl T.cl_Machine.m_is_locked (ok_Machine_is_locked T) (hr.mono (by decide)) tk T.f_Machine_is_locked.b (pad_cons (pd_op add_ (pd_fld (pd_var 0 (pv 0)) T.cl_Machine.cl T.cl_Machine.n_place) (pd_int)) (pad_nil)))) (psd_one (psd_ret (pd_tup (pad_cons (pd_str) (pad_nil))))) (psd_nil)) (psd_cons (psd_set (i := 2) sc.nd rfl (Or.inl rfl) (pd_tup (pad_cons (pd_fld (pd_var 0 (pv 0)) T.cl_Machine.cl T.cl_Machine.n_row) (pad_cons (pd_fld (pd_var 0 (pv 0)) T.cl_Machine.cl T.cl_Machine.n_place) (pad_cons (pd_call (ok_struck_as T) (hr.mono (by decide)) tk (by rfl) T.gf_struck_as T.f_struck_as.F.kp T.f_struck_as.b (pad_cons (pd_var 1 (pv 1)) (pad_cons (pd_fld (pd_var 0 (pv 0)) T.cl_Machine.cl T.cl_Machine.n_caps) (pad_nil)))) (pad_cons (pd_fld (pd_var 0 (pv 0)) T.cl_Machine.cl T.cl_Machine.n_colour) (pad_nil))))))) (psd_cons (psd_expr (pd_mt PySem.F.plainAttrs_list PySem.F.slot_list_append PySem.F.type_list_append append_ (pd_fld (pd_var 0 (pv 0)) T.cl_Machine.cl T.cl_Machine.n_marks) (pad_cons (pd_op add_ (pd_tup (pad_cons (pd_fld (pd_var 0 (pv 0)) T.cl_Machine.cl T.cl_Machine.n_many) (pad_nil))) (pd_var 2 (pv 2))) (pad_nil)))) (psd_cons (psd_if (ptd_cmp (notin_ (u65 hr)) (pd_var 1 (pv 1)) (pd_fld (pd_var 0 (pv 0)) T.cl_Machine.cl T.cl_Machine.n_dead) (by rfl)) (psd_one (psd_expr (pd_meth (pd_var 0 (pv 0)) T.cl_Machine.cl T.cl_Machine.m_go_on (ok_Machine_go_on T) (hr.mono (by decide)) tk T.f_Machine_go_on.b (pad_cons (pd_op add_ (pd_fld (pd_var 0 (pv 0)) T.cl_Machine.cl T.cl_Machine.n_place) (pd_int)) (pad_nil))))) (psd_nil)) (psd_one (psd_ret (pd_op add_ (pd_tup (pad_cons (pd_str) (pad_nil))) (pd_var 2 (pv 2))))))))
theorem ok_Machine_lift (T : Txt K mg A) : FnOk P w K mg base (L2N.CX P w) 2 T.f_Machine_lift.f T.f_Machine_lift.fd ["self", "sign"] (spD K 2 (ph_Machine_lift A)) := by
  have sc := sc_Machine_lift
  refine fnD (b := psi_Machine_lift A) T.f_Machine_lift.F sc (fun cdv Ar outer s H E hr => ?_) (fun ds m R x h hl => dt_Machine_lift T.ad.toAdOk ds m R x h)
  have tk := L2N.takes_of (X := cxD P w K mg base N_Machine_lift "Machine.lift" s_Machine_lift T.f_Machine_lift.f cdv Ar outer s H E) (E := E) rfl rfl rfl rfl
  exact psd_cons (psd_if (ptd_val (pd_meth (pd_var 0 (pv 0)) T.cl_Machine.cl T.cl_Machine.m_is_locked (ok_Machine_is_locked T) (hr.mono (by decide)) tk T.f_Machine_is_locked.b (pad_cons (pd_op add_ (pd_fld (pd_var 0 (pv 0)) T.cl_Machine.cl T.cl_Machine.n_place) (pd_int)) (pad_nil)))) (psd_one (psd_ret (pd_tup (pad_cons (pd_str) (pad_nil))))) (psd_nil)) (psd_cons (psd_set (i := 2) sc.nd rfl (Or.inr rfl) (pd_tup (pad_cons (pd_fld (pd_var 0 (pv 0)) T.cl_Machine.cl T.cl_Machine.n_row) (pad_cons (pd_fld (pd_var 0 (pv 0)) T.cl_Machine.cl T.cl_Machine.n_place) (pad_cons (pd_call (ok_struck_as T) (hr.mono (by decide)) tk (by rfl) T.gf_struck_as T.f_struck_as.F.kp T.f_struck_as.b (pad_cons (pd_var 1 (pv 1)) (pad_cons (pd_fld (pd_var 0 (pv 0)) T.cl_Machine.cl T.cl_Machine.n_caps) (pad_nil)))) (pad_nil)))))) (psd_cons (psd_setLc (i := 3) (own := [("number", 5), ("mark", 6)]) rfl sc.nd rfl rfl (sw_true rfl rfl rfl (by decide +kernel)) (g_tup [5, 6]) (lcw_tup (by decide)) (pid_enum (by rfl) T.b_enumerate (pd_fld (pd_var 0 (pv 0)) T.cl_Machine.cl T.cl_Machine.n_marks)) (blkOk_by (N := N_Machine_lift) (sc := defScope s_Machine_lift) (by decide +kernel)) (fun _ _ _ _ _ => pg_tup rfl (pgs_cons (pg_name (i := 5) sc.nd rfl (by first | exact Or.inl rfl | exact Or.inr rfl)) (pgs_cons (pg_name (i := 6) sc.nd rfl (by first | exact Or.inl rfl | exact Or.inr rfl)) (pgs_nil)))) (fun _ _ _ _ _ => pts_one (ptd_cmp (eq_ (u64 hr)) (pd_sl cut_ (pd_var 6 (pv 6)) (pod_some (pd_int)) (pod_some (pd_int))) (pd_var 2 (pv 2)) (nomark _))) (fun _ _ _ _ _ => pd_var 5 (pv 5))) (psd_cons (psd_set (i := 4) sc.nd rfl (Or.inl rfl) (pd_op add_ (pd_tup (pad_cons (pd_str) (pad_nil))) (pd_sl cut_ (pd_var 2 (pv 2)) (pod_none) (pod_some (pd_int))))) (psd_cons (psd_if (ptd_cmp (ne_ (u64 hr)) (pd_var 3 (pv 3)) (pd_lst (pad_nil)) (nomark _)) (psd_one (psd_set (i := 4) sc.nd rfl (Or.inl rfl) (pd_op add_ (pd_tup (pad_cons (pd_str) (pad_nil))) (pd_sl cut_ (pd_mt PySem.F.plainAttrs_list PySem.F.slot_list_pop PySem.F.type_list_pop popAt_ (pd_fld (pd_var 0 (pv 0)) T.cl_Machine.cl T.cl_Machine.n_marks) (pad_cons (pd_ix ix_ (pd_var 3 (pv 3)) (pd_un neg_ (pd_int)) (fun _ _ => rfl)) (pad_nil))) (pod_some (pd_int)) (pod_none))))) (psd_nil)) (psd_cons (psd_if (ptd_cmp (notin_ (u65 hr)) (pd_var 1 (pv 1)) (pd_fld (pd_var 0 (pv 0)) T.cl_Machine.cl T.cl_Machine.n_dead) (by rfl)) (psd_one (psd_expr (pd_meth (pd_var 0 (pv 0)) T.cl_Machine.cl T.cl_Machine.m_go_on (ok_Machine_go_on T) (hr.mono (by decide)) tk T.f_Machine_go_on.b (pad_cons (pd_op add_ (pd_fld (pd_var 0 (pv 0)) T.cl_Machine.cl T.cl_Machine.n_place) (pd_int)) (pad_nil))))) (psd_nil)) (psd_one (psd_ret (pd_var 4 (pv 4)))))))))
theorem ok_Machine_move (T : Txt K mg A) : FnOk P w K mg base (L2N.CX P w) 2 T.f_Machine_move.f T.f_Machine_move.fd ["self", "word"] (spD K 2 (ph_Machine_move A)) := by
  have sc := sc_Machine_move
  refine fnD (b := psi_Machine_move A) T.f_Machine_move.F sc (fun cdv Ar outer s H E hr => ?_) (fun ds m R x h hl => dt_Machine_move T.ad.toAdOk ds m R x h)
  have tk := L2N.takes_of (X := cxD P w K mg base N_Machine_move "Machine.move" s_Machine_move T.f_Machine_move.f cdv Ar outer s H E) (E := E) rfl rfl rfl rfl
  exact psd_cons (psd_if (ptd_cmp (eq_ (u64 hr)) (pd_var 1 (pv 1)) (pd_str) (nomark _)) (psd_cons (psd_set (i := 2) sc.nd rfl (Or.inl rfl) (pd_op sub_ (pd_fld (pd_var 0 (pv 0)) T.cl_Machine.cl T.cl_Machine.n_place) (pd_int))) (psd_cons (psd_if (PW.pt (pwd_or (ptd_cmp lt_ (pd_var 2 (pv 2)) (pd_int) (nomark _)) (pwd_or1 (PW.pt (pwd_and (ptd_not (ptd_val (pd_fld (pd_var 0 (pv 0)) T.cl_Machine.cl T.cl_Machine.n_is_free))) (pwd_and1 (ptd_chain lt_ le_ (pd_var 2 (pv 2)) (pd_fld (pd_var 0 (pv 0)) T.cl_Machine.cl T.cl_Machine.n_low) (pd_fld (pd_var 0 (pv 0)) T.cl_Machine.cl T.cl_Machine.n_place)))))))) (psd_one (psd_ret (pd_tup (pad_cons (pd_str) (pad_nil))))) (psd_nil)) (psd_cons (psd_fld (pd_var 0 (pv 0)) (pd_var 2 (pv 2)) T.cl_Machine.cl T.cl_Machine.n_place) (psd_one (psd_ret (pd_tup (pad_cons (pd_str) (pad_cons (pd_fld (pd_var 0 (pv 0)) T.cl_Machine.cl T.cl_Machine.n_row) (pad_cons (pd_var 2 (pv 2)) (pad_nil)))))))))) (psd_nil)) (psd_cons (psd_set (i := 2) sc.nd rfl (Or.inl rfl) (pd_op add_ (pd_fld (pd_var 0 (pv 0)) T.cl_Machine.cl T.cl_Machine.n_place) (pd_dispget2 (u1 hr) (ppd_cons (pd_str) (pd_int) (ppd_cons (pd_str) (pd_int) (ppd_nil))) rfl rfl (fun z => nomatch z) (by decide) (pd_var 1 (pv 1)) (pd_int) ⟨rfl, rfl, rfl, rfl⟩))) (psd_cons (psd_if (ptd_cmp (eq_ (u64 hr)) (pd_var 1 (pv 1)) (pd_str) (nomark _)) (psd_one (psd_set (i := 2) sc.nd rfl (Or.inl rfl) (pd_ix ix_ (pd_op add_ (pd_lc (own := [("tab", 3)]) rfl sc.nd (g_name 3) (lcw_name (by decide)) (pid_seq (pd_fld (pd_var 0 (pv 0)) T.cl_Machine.cl T.cl_Machine.n_tabs)) (blkOk_by (N := N_Machine_move) (sc := defScope s_Machine_move) (by decide +kernel)) (fun _ _ _ _ _ => pg_name (i := 3) sc.nd rfl (by first | exact Or.inl rfl | exact Or.inr rfl)) (fun _ _ _ _ _ => pts_one (ptd_cmp gt_ (pd_var 3 (pv 3)) (pd_fld (pd_var 0 (pv 0)) T.cl_Machine.cl T.cl_Machine.n_place) (nomark _))) (fun _ _ _ _ _ => pd_var 3 (pv 3))) (pd_lst (pad_cons (pd_op add_ (pd_fld (pd_var 0 (pv 0)) T.cl_Machine.cl T.cl_Machine.n_end) (pd_int)) (pad_nil)))) (pd_int) (fun _ _ => rfl)))) (psd_nil)) (psd_cons (psd_if (ptd_val (pd_meth (pd_var 0 (pv 0)) T.cl_Machine.cl T.cl_Machine.m_is_locked (ok_Machine_is_locked T) (hr.mono (by decide)) tk T.f_Machine_is_locked.b (pad_cons (pd_var 2 (pv 2)) (pad_nil)))) (psd_one (psd_ret (pd_tup (pad_cons (pd_str) (pad_nil))))) (psd_nil)) (psd_cons (psd_expr (pd_meth (pd_var 0 (pv 0)) T.cl_Machine.cl T.cl_Machine.m_go_on (ok_Machine_go_on T) (hr.mono (by decide)) tk T.f_Machine_go_on.b (pad_cons (pd_var 2 (pv 2)) (pad_nil)))) (psd_one (psd_ret (pd_tup (pad_cons (pd_str) (pad_cons (pd_fld (pd_var 0 (pv 0)) T.cl_Machine.cl T.cl_Machine.n_row) (pad_cons (pd_var 2 (pv 2)) (pad_nil)))))))))))
theorem ok__law_mixed (T : Txt K mg A) : FnOk P w K mg base (L2N.CX P w) 2 T.f__law_mixed.f T.f__law_mixed.fd ["script", "k", "many"] (spD K 3 (ph__law_mixed A)) := by
  have sc := sc__law_mixed
  refine fnD (b := psi__law_mixed A) T.f__law_mixed.F sc (fun cdv Ar outer s H E hr => ?_) (fun ds m R x h hl => dt__law_mixed T.ad.toAdOk ds m R x h)
  have tk := L2N.takes_of (X := cxD P w K mg base N__law_mixed "_law_mixed" s__law_mixed T.f__law_mixed.f cdv Ar outer s H E) (E := E) rfl rfl rfl rfl
  exact psd_cons (psd_set (i := 3) sc.nd rfl (Or.inl rfl) (pd_op mod_ (pd_op add_ (pd_op add_ (pd_op mul_ (pd_call (ok__law_cell_at T) (hr.mono (by decide)) tk (by rfl) T.gf__law_cell_at T.f__law_cell_at.F.kp T.f__law_cell_at.b (pad_cons (pd_var 0 (pv 0)) (pad_cons (pd_var 1 (pv 1)) (pad_nil)))) (pd_int)) (pd_op mul_ (pd_int) (pd_var 1 (pv 1)))) (pd_int)) (pd_int))) (psd_one (psd_ret (pd_op mod_ (pd_op mod_ (pd_op mod_ (pd_op pow_ (pd_var 3 (pv 3)) (pd_int)) (pd_int)) (pd_int)) (pd_var 2 (pv 2)))))
theorem ok__law_ink (T : Txt K mg A) : FnOk P w K mg base (L2N.CX P w) 2 T.f__law_ink.f T.f__law_ink.fd ["work", "word", "sign"] (spD K 3 (ph__law_ink A)) := by
  have sc := sc__law_ink
  refine fnD (b := psi__law_ink A) T.f__law_ink.F sc (fun cdv Ar outer s H E hr => ?_) (fun ds m R x h hl => dt__law_ink T.ad.toAdOk ds m R x h)
  have tk := L2N.takes_of (X := cxD P w K mg base N__law_ink "_law_ink" s__law_ink T.f__law_ink.f cdv Ar outer s H E) (E := E) rfl rfl rfl rfl
  exact psd_cons (psd_if (ptd_val (pd_call (ok__law_shut T) (hr.mono (by decide)) tk (by rfl) T.gf__law_shut T.f__law_shut.F.kp T.f__law_shut.b (pad_cons (pd_var 0 (pv 0)) (pad_cons (pd_op add_ (pd_dget (u1 hr) (pd_var 0 (pv 0)) (pd_str) (fun _ _ => rfl)) (pd_int)) (pad_nil))))) (psd_one (psd_ret (pd_tup (pad_cons (pd_str) (pad_nil))))) (psd_nil)) (psd_cons (psd_set (i := 3) sc.nd rfl (Or.inl rfl) (pd_tup (pad_cons (pd_dget (u1 hr) (pd_var 0 (pv 0)) (pd_str) (fun _ _ => rfl)) (pad_cons (pd_dget (u1 hr) (pd_var 0 (pv 0)) (pd_str) (fun _ _ => rfl)) (pad_nil))))) (psd_cons (psd_set (i := 4) sc.nd rfl (Or.inr rfl) (pd_op add_ (pd_var 3 (pv 3)) (pd_tup (pad_cons (pd_call (ok__law_as T) (hr.mono (by decide)) tk (by rfl) T.gf__law_as T.f__law_as.F.kp T.f__law_as.b (pad_cons (pd_var 0 (pv 0)) (pad_cons (pd_var 2 (pv 2)) (pad_nil)))) (pad_cons (pd_if (ptd_val (pd_dget (u1 hr) (pd_var 0 (pv 0)) (pd_str) (fun _ _ => rfl))) (pd_str) (pd_str)) (pad_nil)))))) (psd_cons (psd_setLc (i := 5) (own := [("one", 7)]) rfl sc.nd rfl rfl (sw_true rfl rfl rfl (by decide +kernel)) (g_name 7) (lcw_name (by decide)) (pid_seq (pd_dget (u1 hr) (pd_var 0 (pv 0)) (pd_str) (fun _ _ => rfl))) (blkOk_by (N := N__law_ink) (sc := defScope s__law_ink) (by decide +kernel)) (fun _ _ _ _ _ => pg_name (i := 7) sc.nd rfl (by first | exact Or.inl rfl | exact Or.inr rfl)) (fun _ _ _ _ _ => pts_one (ptd_cmp (eq_ (u64 hr)) (pd_sl cut_ (pd_var 7 (pv 7)) (pod_some (pd_int)) (pod_some (pd_int))) (pd_sl cut_ (pd_var 4 (pv 4)) (pod_none) (pod_some (pd_int))) (nomark _))) (fun _ _ _ _ _ => pd_var 7 (pv 7))) (psd_cons (psd_set (i := 6) sc.nd rfl (Or.inl rfl) (pd_op add_ (pd_tup (pad_cons (pd_str) (pad_nil))) (pd_var 4 (pv 4)))) (psd_cons (psd_if (ptd_cmp (eq_ (u64 hr)) (pd_var 1 (pv 1)) (pd_str) (nomark _)) (psd_one (psd_expr (pd_mt PySem.F.plainAttrs_list PySem.F.slot_list_append PySem.F.type_list_append append_ (pd_dget (u1 hr) (pd_var 0 (pv 0)) (pd_str) (fun _ _ => rfl)) (pad_cons (pd_op add_ (pd_tup (pad_cons (pd_dget (u1 hr) (pd_var 0 (pv 0)) (pd_str) (fun _ _ => rfl)) (pad_nil))) (pd_var 4 (pv 4))) (pad_nil))))) (psd_one (psd_if (ptd_cmp (eq_ (u64 hr)) (pd_var 5 (pv 5)) (pd_lst (pad_nil)) (nomark _)) (psd_one (psd_set (i := 6) sc.nd rfl (Or.inl rfl) (pd_op add_ (pd_tup (pad_cons (pd_str) (pad_nil))) (pd_var 3 (pv 3))))) (psd_cons (psd_expr (pd_mt PySem.F.plainAttrs_list PySem.F.slot_list_remove PySem.F.type_list_remove (remD_ (u65 hr)) (pd_dget (u1 hr) (pd_var 0 (pv 0)) (pd_str) (fun _ _ => rfl)) (pad_cons (pd_ix ix_ (pd_var 5 (pv 5)) (pd_un neg_ (pd_int)) (fun _ _ => rfl)) (pad_nil)))) (psd_one (psd_set (i := 6) sc.nd rfl (Or.inl rfl) (pd_op add_ (pd_tup (pad_cons (pd_str) (pad_nil))) (pd_sl cut_ (pd_ix ix_ (pd_var 5 (pv 5)) (pd_un neg_ (pd_int)) (fun _ _ => rfl)) (pod_some (pd_int)) (pod_none))))))))) (psd_cons (psd_if (ptd_cmp (notin_ (u65 hr)) (pd_var 2 (pv 2)) (pd_ix ix_ (pd_dget (u1 hr) (pd_var 0 (pv 0)) (pd_str) (fun _ _ => rfl)) (pd_int) (fun _ _ => rfl)) (by rfl)) (psd_one (psd_expr (pd_call (ok__law_go T) (hr.mono (by decide)) tk (by rfl) T.gf__law_go T.f__law_go.F.kp T.f__law_go.b (pad_cons (pd_var 0 (pv 0)) (pad_cons (pd_op add_ (pd_dget (u1 hr) (pd_var 0 (pv 0)) (pd_str) (fun _ _ => rfl)) (pd_int)) (pad_nil)))))) (psd_nil)) (psd_one (psd_ret (pd_var 6 (pv 6))))))))))
theorem ok__law_step (T : Txt K mg A) : FnOk P w K mg base (L2N.CX P w) 2 T.f__law_step.f T.f__law_step.fd ["work", "word"] (spD K 2 (ph__law_step A)) := by
  have sc := sc__law_step
  refine fnD (b := psi__law_step A) T.f__law_step.F sc (fun cdv Ar outer s H E hr => ?_) (fun ds m R x h hl => dt__law_step T.ad.toAdOk ds m R x h)
  have tk := L2N.takes_of (X := cxD P w K mg base N__law_step "_law_step" s__law_step T.f__law_step.f cdv Ar outer s H E) (E := E) rfl rfl rfl rfl
  exact psd_cons (psd_set (i := 2) sc.nd rfl (Or.inr rfl) (pd_dget (u1 hr) (pd_var 0 (pv 0)) (pd_str) (fun _ _ => rfl))) (psd_cons (psd_if (ptd_cmp (eq_ (u64 hr)) (pd_var 1 (pv 1)) (pd_str) (nomark _)) (psd_cons (psd_if (PW.pt (pwd_or (ptd_cmp lt_ (pd_var 2 (pv 2)) (pd_int) (nomark _)) (pwd_or1 (PW.pt (pwd_and (ptd_not (ptd_val (pd_dget (u1 hr) (pd_var 0 (pv 0)) (pd_str) (fun _ _ => rfl)))) (pwd_and1 (ptd_chain ge_ gt_ (pd_var 2 (pv 2)) (pd_dget (u1 hr) (pd_var 0 (pv 0)) (pd_str) (fun _ _ => rfl)) (pd_op sub_ (pd_var 2 (pv 2)) (pd_int))))))))) (psd_one (psd_ret (pd_tup (pad_cons (pd_str) (pad_nil))))) (psd_nil)) (psd_cons (psd_dput (u1 hr) (pd_var 0 (pv 0)) (pd_str) (pd_op sub_ (pd_var 2 (pv 2)) (pd_int))) (psd_one (psd_ret (pd_tup (pad_cons (pd_str) (pad_cons (pd_dget (u1 hr) (pd_var 0 (pv 0)) (pd_str) (fun _ _ => rfl)) (pad_cons (pd_op sub_ (pd_var 2 (pv 2)) (pd_int)) (pad_nil))))))))) (psd_nil)) (psd_cons (psd_if (ptd_cmp (in_ (u65 hr)) (pd_var 1 (pv 1)) (pd_tup (pad_cons (pd_str) (pad_cons (pd_str) (pad_cons (pd_str) (pad_nil))))) (by rfl)) (psd_cons (psd_set (i := 3) sc.nd rfl (Or.inl rfl) (pd_op add_ (pd_dget (u1 hr) (pd_var 0 (pv 0)) (pd_str) (fun _ _ => rfl)) (pd_dispget (u1 hr) (ppd_cons (pd_str) (pd_ix ix_ (pd_dget (u1 hr) (pd_var 0 (pv 0)) (pd_str) (fun _ _ => rfl)) (pd_int) (fun _ _ => rfl)) (ppd_cons (pd_str) (pd_un neg_ (pd_int)) (ppd_cons (pd_str) (pd_int) (ppd_nil)))) rfl rfl (fun z => nomatch z) (by decide) (pd_var 1 (pv 1)) (fun _ _ => rfl)))) (psd_cons (psd_if (PW.pt (pwd_or (ptd_cmp lt_ (pd_var 3 (pv 3)) (pd_int) (nomark _)) (pwd_or1 (ptd_cmp gt_ (pd_var 3 (pv 3)) (pd_int) (nomark _))))) (psd_one (psd_ret (pd_tup (pad_cons (pd_str) (pad_nil))))) (psd_nil)) (psd_cons (psd_dput (u1 hr) (pd_var 0 (pv 0)) (pd_str) (pd_var 3 (pv 3))) (psd_cons (psd_if (ptd_cmp (eq_ (u64 hr)) (pd_var 1 (pv 1)) (pd_str) (nomark _)) (psd_cons (psd_dput (u1 hr) (pd_var 0 (pv 0)) (pd_str) (pd_dget (u1 hr) (pd_var 0 (pv 0)) (pd_str) (fun _ _ => rfl))) (psd_one (psd_dput (u1 hr) (pd_var 0 (pv 0)) (pd_str) (pd_bl)))) (psd_nil)) (psd_one (psd_ret (pd_tup (pad_cons (pd_str) (pad_cons (pd_var 3 (pv 3)) (pad_cons (pd_dget (u1 hr) (pd_var 0 (pv 0)) (pd_str) (fun _ _ => rfl)) (pad_nil))))))))))) (psd_nil)) (psd_cons (psd_set (i := 4) sc.nd rfl (Or.inl rfl) (pd_op add_ (pd_var 2 (pv 2)) (pd_if (ptd_cmp (eq_ (u64 hr)) (pd_var 1 (pv 1)) (pd_str) (nomark _)) (pd_int) (pd_int)))) (psd_cons (psd_if (ptd_cmp (eq_ (u64 hr)) (pd_var 1 (pv 1)) (pd_str) (nomark _)) (psd_one (psd_set (i := 4) sc.nd rfl (Or.inl rfl) (pd_callB (minL_ rfl) (by rfl) T.b_min (by decide +kernel) (pad_cons (pd_op add_ (pd_lc (own := [("tab", 5)]) rfl sc.nd (g_name 5) (lcw_name (by decide)) (pid_seq (pd_dget (u1 hr) (pd_var 0 (pv 0)) (pd_str) (fun _ _ => rfl))) (blkOk_by (N := N__law_step) (sc := defScope s__law_step) (by decide +kernel)) (fun _ _ _ _ _ => pg_name (i := 5) sc.nd rfl (by first | exact Or.inl rfl | exact Or.inr rfl)) (fun _ _ _ _ _ => pts_one (ptd_cmp gt_ (pd_var 5 (pv 5)) (pd_var 2 (pv 2)) (nomark _))) (fun _ _ _ _ _ => pd_var 5 (pv 5))) (pd_lst (pad_cons (pd_int) (pad_nil)))) (pad_nil))))) (psd_nil)) (psd_one (psd_ret (pd_if (ptd_val (pd_call (ok__law_shut T) (hr.mono (by decide)) tk (by rfl) T.gf__law_shut T.f__law_shut.F.kp T.f__law_shut.b (pad_cons (pd_var 0 (pv 0)) (pad_cons (pd_var 4 (pv 4)) (pad_nil))))) (pd_tup (pad_cons (pd_str) (pad_nil))) (pd_call (ok__law_go T) (hr.mono (by decide)) tk (by rfl) T.gf__law_go T.f__law_go.F.kp T.f__law_go.b (pad_cons (pd_var 0 (pv 0)) (pad_cons (pd_var 4 (pv 4)) (pad_nil)))))))))))
theorem ok_need_machine (T : Txt K mg A) : FnOk P w K mg base (L2N.CX P w) 3 T.f_need_machine.f T.f_need_machine.fd ["thing"] (spD K 1 (ph_need_machine A)) := by
  have sc := sc_need_machine
  refine fnD (b := psi_need_machine A) T.f_need_machine.F sc (fun cdv Ar outer s H E hr => ?_) (fun ds m R x h hl => dt_need_machine T.ad.toAdOk ds m R x h)
  have tk := L2N.takes_of (X := cxD P w K mg base N_need_machine "need_machine" s_need_machine T.f_need_machine.f cdv Ar outer s H E) (E := E) rfl rfl rfl rfl
  exact psd_one (psd_if (ptd_not (ptd_val (pd_call (ok_is_machine T) (hr.mono (by decide)) tk (by rfl) T.gf_is_machine T.f_is_machine.F.kp T.f_is_machine.b (pad_cons (pd_var 0 (pv 0)) (pad_nil))))) (psd_one (psd_raise rfl tk T.x_NoMachine (by rfl))) (psd_nil))
theorem ok_need_keys (T : Txt K mg A) : FnOk P w K mg base (L2N.CX P w) 3 T.f_need_keys.f T.f_need_keys.fd ["thing"] (spD K 1 (ph_need_keys A)) := by
  have sc := sc_need_keys
  refine fnD (b := psi_need_keys A) T.f_need_keys.F sc (fun cdv Ar outer s H E hr => ?_) (fun ds m R x h hl => dt_need_keys T.ad.toAdOk ds m R x h)
  have tk := L2N.takes_of (X := cxD P w K mg base N_need_keys "need_keys" s_need_keys T.f_need_keys.f cdv Ar outer s H E) (E := E) rfl rfl rfl rfl
  exact psd_one (psd_if (PW.pt (pwd_or (ptd_not (ptd_val (pd_callB (isi_) (by rfl) T.b_isinstance (by decide +kernel) (pad_cons (pd_var 0 (pv 0)) (pad_cons (pd_bty T.b_tuple (by decide +kernel) (by rfl)) (pad_nil)))))) (pwd_or (ptd_cmp gt_ (pd_callB (len_) (by rfl) T.b_len (by decide +kernel) (pad_cons (pd_var 0 (pv 0)) (pad_nil))) (pd_gi T.g_KEYS (by rfl)) (nomark _)) (pwd_or1 (ptd_not (ptd_val (pd_callB (all_ rfl) (by rfl) T.b_all (by decide +kernel) (pad_cons (pd_lc (own := [("key", 1)]) rfl sc.nd (g_name 1) (lcw_name (by decide)) (pid_seq (pd_var 0 (pv 0))) (blkOk_by (N := N_need_keys) (sc := defScope s_need_keys) (by decide +kernel)) (fun _ _ _ _ _ => pg_name (i := 1) sc.nd rfl (by first | exact Or.inl rfl | exact Or.inr rfl)) (fun _ _ _ _ _ => ptsd_nil) (fun _ _ _ _ _ => pd_call (ok_is_key T) (hr.mono (by decide)) takesN0 (by rfl) T.gf_is_key T.f_is_key.F.kp T.f_is_key.b (pad_cons (pd_var 1 (pv 1)) (pad_nil)))) (pad_nil))))))))) (psd_one (psd_raise rfl tk T.x_NoKeys (by rfl))) (psd_nil))
theorem ok_Machine_press (T : Txt K mg A) : FnOk P w K mg base (L2N.CX P w) 3 T.f_Machine_press.f T.f_Machine_press.fd ["self", "key"] (spD K 2 (ph_Machine_press A)) := by
  have sc := sc_Machine_press
  refine fnD (b := psi_Machine_press A) T.f_Machine_press.F sc (fun cdv Ar outer s H E hr => ?_) (fun ds m R x h hl => dt_Machine_press T.ad.toAdOk ds m R x h)
  have tk := L2N.takes_of (X := cxD P w K mg base N_Machine_press "Machine.press" s_Machine_press T.f_Machine_press.f cdv Ar outer s H E) (E := E) rfl rfl rfl rfl
  exact psd_cons (psd_if (ptd_cmp (eq_ (u64 hr)) (pd_ix ix_ (pd_var 1 (pv 1)) (pd_int) (fun _ _ => rfl)) (pd_str) (nomark _)) (psd_one (psd_set (i := 2) sc.nd rfl (Or.inl rfl) (pd_meth (pd_var 0 (pv 0)) T.cl_Machine.cl T.cl_Machine.m_strike (ok_Machine_strike T) (hr.mono (by decide)) tk T.f_Machine_strike.b (pad_cons (pd_ix ix_ (pd_var 1 (pv 1)) (pd_int) (fun _ _ => rfl)) (pad_nil))))) (psd_one (psd_if (ptd_cmp (eq_ (u64 hr)) (pd_ix ix_ (pd_var 1 (pv 1)) (pd_int) (fun _ _ => rfl)) (pd_str) (nomark _)) (psd_one (psd_set (i := 2) sc.nd rfl (Or.inl rfl) (pd_meth (pd_var 0 (pv 0)) T.cl_Machine.cl T.cl_Machine.m_lift (ok_Machine_lift T) (hr.mono (by decide)) tk T.f_Machine_lift.b (pad_cons (pd_ix ix_ (pd_var 1 (pv 1)) (pd_int) (fun _ _ => rfl)) (pad_nil))))) (psd_one (psd_if (ptd_cmp (in_ (u65 hr)) (pd_ix ix_ (pd_var 1 (pv 1)) (pd_int) (fun _ _ => rfl)) (pd_tup (pad_cons (pd_str) (pad_cons (pd_str) (pad_cons (pd_str) (pad_cons (pd_str) (pad_nil)))))) (by rfl)) (psd_one (psd_set (i := 2) sc.nd rfl (Or.inl rfl) (pd_meth (pd_var 0 (pv 0)) T.cl_Machine.cl T.cl_Machine.m_move (ok_Machine_move T) (hr.mono (by decide)) tk T.f_Machine_move.b (pad_cons (pd_ix ix_ (pd_var 1 (pv 1)) (pd_int) (fun _ _ => rfl)) (pad_nil))))) (psd_one (psd_if (ptd_cmp (in_ (u65 hr)) (pd_ix ix_ (pd_var 1 (pv 1)) (pd_int) (fun _ _ => rfl)) (pd_tup (pad_cons (pd_str) (pad_cons (pd_str) (pad_cons (pd_str) (pad_nil))))) (by rfl)) (psd_one (psd_set (i := 2) sc.nd rfl (Or.inl rfl) (pd_meth (pd_var 0 (pv 0)) T.cl_Machine.cl T.cl_Machine.m_roll (ok_Machine_roll T) (hr.mono (by decide)) tk T.f_Machine_roll.b (pad_cons (pd_ix ix_ (pd_var 1 (pv 1)) (pd_int) (fun _ _ => rfl)) (pad_nil))))) (psd_one (psd_set (i := 2) sc.nd rfl (Or.inl rfl) (pd_meth (pd_var 0 (pv 0)) T.cl_Machine.cl T.cl_Machine.m_set_up (ok_Machine_set_up T) (hr.mono (by decide)) tk T.f_Machine_set_up.b (pad_cons (pd_ix ix_ (pd_var 1 (pv 1)) (pd_int) (fun _ _ => rfl)) (pad_nil)))))))))))) (psd_cons (psd_fld (pd_var 0 (pv 0)) (pd_op add_ (pd_fld (pd_var 0 (pv 0)) T.cl_Machine.cl T.cl_Machine.n_many) (pd_int)) T.cl_Machine.cl T.cl_Machine.n_many) (psd_one (psd_ret (pd_var 2 (pv 2)))))
theorem ok__law_draw (T : Txt K mg A) : FnOk P w K mg base (L2N.CX P w) 3 T.f__law_draw.f T.f__law_draw.fd ["script", "town", "many"] (spD K 3 (ph__law_draw A)) := by
  have sc := sc__law_draw
  refine fnD (b := psi__law_draw A) T.f__law_draw.F sc (fun cdv Ar outer s H E hr => ?_) (fun ds m R x h hl => dt__law_draw T.ad.toAdOk ds m R x h)
  have tk := L2N.takes_of (X := cxD P w K mg base N__law_draw "_law_draw" s__law_draw T.f__law_draw.f cdv Ar outer s H E) (E := E) rfl rfl rfl rfl
  exact psd_cons (psd_expr (pd_mt PySem.F.plainAttrs_list PySem.F.slot_list_append PySem.F.type_list_append append_ (pd_var 1 (pv 1)) (pad_cons (pd_int) (pad_nil)))) (psd_one (psd_ret (pd_call (ok__law_mixed T) (hr.mono (by decide)) tk (by rfl) T.gf__law_mixed T.f__law_mixed.F.kp T.f__law_mixed.b (pad_cons (pd_var 0 (pv 0)) (pad_cons (pd_callB (len_) (by rfl) T.b_len (by decide +kernel) (pad_cons (pd_var 1 (pv 1)) (pad_nil))) (pad_cons (pd_var 2 (pv 2)) (pad_nil)))))))
theorem ok__law_press (T : Txt K mg A) : FnOk P w K mg base (L2N.CX P w) 3 T.f__law_press.f T.f__law_press.fd ["work", "key"] (spD K 2 (ph__law_press A)) := by
  have sc := sc__law_press
  refine fnD (b := psi__law_press A) T.f__law_press.F sc (fun cdv Ar outer s H E hr => ?_) (fun ds m R x h hl => dt__law_press T.ad.toAdOk ds m R x h)
  have tk := L2N.takes_of (X := cxD P w K mg base N__law_press "_law_press" s__law_press T.f__law_press.f cdv Ar outer s H E) (E := E) rfl rfl rfl rfl
  exact psd_cons (psd_if (ptd_cmp (in_ (u65 hr)) (pd_ix ix_ (pd_var 1 (pv 1)) (pd_int) (fun _ _ => rfl)) (pd_tup (pad_cons (pd_str) (pad_cons (pd_str) (pad_nil)))) (by rfl)) (psd_one (psd_set (i := 2) sc.nd rfl (Or.inl rfl) (pd_call (ok__law_ink T) (hr.mono (by decide)) tk (by rfl) T.gf__law_ink T.f__law_ink.F.kp T.f__law_ink.b (pad_cons (pd_var 0 (pv 0)) (pad_cons (pd_ix ix_ (pd_var 1 (pv 1)) (pd_int) (fun _ _ => rfl)) (pad_cons (pd_ix ix_ (pd_var 1 (pv 1)) (pd_int) (fun _ _ => rfl)) (pad_nil))))))) (psd_one (psd_if (ptd_cmp (in_ (u65 hr)) (pd_ix ix_ (pd_var 1 (pv 1)) (pd_int) (fun _ _ => rfl)) (pd_tup (pad_cons (pd_str) (pad_cons (pd_str) (pad_cons (pd_str) (pad_cons (pd_str) (pad_cons (pd_str) (pad_cons (pd_str) (pad_cons (pd_str) (pad_cons (pd_str) (pad_nil)))))))))) (by rfl)) (psd_one (psd_set (i := 2) sc.nd rfl (Or.inl rfl) (pd_call (ok__law_turn T) (hr.mono (by decide)) tk (by rfl) T.gf__law_turn T.f__law_turn.F.kp T.f__law_turn.b (pad_cons (pd_var 0 (pv 0)) (pad_cons (pd_ix ix_ (pd_var 1 (pv 1)) (pd_int) (fun _ _ => rfl)) (pad_nil)))))) (psd_one (psd_set (i := 2) sc.nd rfl (Or.inl rfl) (pd_call (ok__law_step T) (hr.mono (by decide)) tk (by rfl) T.gf__law_step T.f__law_step.F.kp T.f__law_step.b (pad_cons (pd_var 0 (pv 0)) (pad_cons (pd_ix ix_ (pd_var 1 (pv 1)) (pd_int) (fun _ _ => rfl)) (pad_nil))))))))) (psd_cons (psd_dput (u1 hr) (pd_var 0 (pv 0)) (pd_str) (pd_op add_ (pd_dget (u1 hr) (pd_var 0 (pv 0)) (pd_str) (fun _ _ => rfl)) (pd_int))) (psd_one (psd_ret (pd_var 2 (pv 2)))))
theorem ok_keys_for (T : Txt K mg A) : FnOk P w K mg base (L2N.CX P w) 4 T.f_keys_for.f T.f_keys_for.fd ["machine", "some"] (spD K 2 (ph_keys_for A)) := by
  have sc := sc_keys_for
  refine fnD (b := psi_keys_for A) T.f_keys_for.F sc (fun cdv Ar outer s H E hr => ?_) (fun ds m R x h hl => dt_keys_for T.ad.toAdOk ds m R x h)
  have tk := L2N.takes_of (X := cxD P w K mg base N_keys_for "keys_for" s_keys_for T.f_keys_for.f cdv Ar outer s H E) (E := E) rfl rfl rfl rfl
  exact psd_cons (psd_expr (pd_call (ok_need_machine T) (hr.mono (by decide)) tk (by rfl) T.gf_need_machine T.f_need_machine.F.kp T.f_need_machine.b (pad_cons (pd_var 0 (pv 0)) (pad_nil)))) (psd_cons (psd_if (PW.pt (pwd_or (ptd_not (ptd_val (pd_callB (isi_) (by rfl) T.b_isinstance (by decide +kernel) (pad_cons (pd_var 1 (pv 1)) (pad_cons (pd_bty T.b_list (by decide +kernel) (by rfl)) (pad_nil)))))) (pwd_or (ptd_cmp gt_ (pd_callB (len_) (by rfl) T.b_len (by decide +kernel) (pad_cons (pd_var 1 (pv 1)) (pad_nil))) (pd_gi T.g_MOST (by rfl)) (nomark _)) (pwd_or1 (ptd_not (ptd_val (pd_callB (all_ rfl) (by rfl) T.b_all (by decide +kernel) (pad_cons (pd_lc (own := [("one", 11)]) rfl sc.nd (g_name 11) (lcw_name (by decide)) (pid_seq (pd_var 1 (pv 1))) (blkOk_by (N := N_keys_for) (sc := defScope s_keys_for) (by decide +kernel)) (fun _ _ _ _ _ => pg_name (i := 11) sc.nd rfl (by first | exact Or.inl rfl | exact Or.inr rfl)) (fun _ _ _ _ _ => ptsd_nil) (fun _ _ _ _ _ => pd_call (ok_is_strike T) (hr.mono (by decide)) takesN0 (by rfl) T.gf_is_strike T.f_is_strike.F.kp T.f_is_strike.b (pad_cons (pd_var 0 (pv 0)) (pad_cons (pd_var 11 (pv 11)) (pad_nil))))) (pad_nil))))))))) (psd_one (psd_raise rfl tk T.x_NoStrikes (by rfl))) (psd_nil)) (psd_cons (psd_set (i := 2) sc.nd rfl (Or.inl rfl) (pd_lst (pad_nil))) (psd_cons (psd_asg (pd_tup (pad_cons (pd_int) (pad_cons (pd_int) (pad_cons (pd_str) (pad_nil))))) (pg_tup rfl (pgs_cons (pg_name (i := 3) sc.nd rfl (Or.inl rfl)) (pgs_cons (pg_name (i := 4) sc.nd rfl (Or.inl rfl)) (pgs_cons (pg_name (i := 5) sc.nd rfl (Or.inl rfl)) (pgs_nil))))) (g_tup [3, 4, 5])) (psd_cons (psd_for (L2.passes_of rfl) rfl (pid_seq (pd_callB (sortD_ (u65 hr)) (by rfl) T.b_sorted (by decide +kernel) (pad_cons (pd_lc (own := [("number", 8), ("one", 11)]) rfl sc.nd (g_tup [8, 11]) (lcw_tup (by decide)) (pid_enum (by rfl) T.b_enumerate (pd_var 1 (pv 1))) (blkOk_by (N := N_keys_for) (sc := defScope s_keys_for) (by decide +kernel)) (fun _ _ _ _ _ => pg_tup rfl (pgs_cons (pg_name (i := 8) sc.nd rfl (by first | exact Or.inl rfl | exact Or.inr rfl)) (pgs_cons (pg_name (i := 11) sc.nd rfl (by first | exact Or.inl rfl | exact Or.inr rfl)) (pgs_nil)))) (fun _ _ _ _ _ => ptsd_nil) (fun _ _ _ _ _ => pd_tup (pad_cons (pd_ix ix_ (pd_var 11 (pv 11)) (pd_int) (fun _ _ => rfl)) (pad_cons (pd_ix ix_ (pd_var 11 (pv 11)) (pd_int) (fun _ _ => rfl)) (pad_cons (pd_var 8 (pv 8)) (pad_nil)))))) (pad_nil)))) (pg_tup rfl (pgs_cons (pg_name (i := 6) sc.nd rfl (Or.inl rfl)) (pgs_cons (pg_name (i := 7) sc.nd rfl (Or.inl rfl)) (pgs_cons (pg_name (i := 8) sc.nd rfl (Or.inl rfl)) (pgs_nil))))) (g_tup [6, 7, 8]) (psd_cons (psd_asg (pd_sl cut_ (pd_ix ix_ (pd_var 1 (pv 1)) (pd_var 8 (pv 8)) (fun _ _ => rfl)) (pod_some (pd_int)) (pod_none)) (pg_tup rfl (pgs_cons (pg_name (i := 9) sc.nd rfl (Or.inl rfl)) (pgs_cons (pg_name (i := 10) sc.nd rfl (Or.inl rfl)) (pgs_nil)))) (g_tup [9, 10])) (psd_cons (psd_if (PW.pt (pwd_and (ptd_cmp gt_ (pd_var 6 (pv 6)) (pd_var 3 (pv 3)) (nomark _)) (pwd_and1 (ptd_cmp gt_ (pd_var 4 (pv 4)) (pd_int) (nomark _))))) (psd_cons (psd_expr (pd_mt PySem.F.plainAttrs_list PySem.F.slot_list_extend PySem.F.type_list_extend extend_ (pd_var 2 (pv 2)) (pad_cons (pd_call (ok_home T) (hr.mono (by decide)) tk (by rfl) T.gf_home T.f_home.F.kp T.f_home.b (pad_cons (pd_var 0 (pv 0)) (pad_cons (pd_var 3 (pv 3)) (pad_nil)))) (pad_nil)))) (psd_one (psd_par (by rfl) sc.nd rfl rfl (by decide) rfl rfl (pad_cons (pd_call (ok_home_row T) (hr.mono (by decide)) tk (by rfl) T.gf_home_row T.f_home_row.F.kp T.f_home_row.b (pad_cons (pd_var 0 (pv 0)) (pad_cons (pd_var 3 (pv 3)) (pad_nil)))) (pad_cons (pd_int) (pad_nil))) (by rfl)))) (psd_nil)) (psd_cons (psd_expr (pd_mt PySem.F.plainAttrs_list PySem.F.slot_list_extend PySem.F.type_list_extend extend_ (pd_var 2 (pv 2)) (pad_cons (pd_op add_ (pd_op add_ (pd_op mul_ (pd_lst (pad_cons (pd_tup (pad_cons (pd_str) (pad_nil))) (pad_nil))) (pd_op sub_ (pd_var 6 (pv 6)) (pd_var 3 (pv 3)))) (pd_op mul_ (pd_lst (pad_cons (pd_tup (pad_cons (pd_str) (pad_nil))) (pad_nil))) (pd_op sub_ (pd_var 3 (pv 3)) (pd_var 6 (pv 6))))) (pd_call (ok_led T) (hr.mono (by decide)) tk (by rfl) T.gf_led T.f_led.F.kp T.f_led.b (pad_cons (pd_var 4 (pv 4)) (pad_cons (pd_var 7 (pv 7)) (pad_nil))))) (pad_nil)))) (psd_cons (psd_if (ptd_cmp (ne_ (u64 hr)) (pd_var 10 (pv 10)) (pd_var 5 (pv 5)) (nomark _)) (psd_one (psd_expr (pd_mt PySem.F.plainAttrs_list PySem.F.slot_list_append PySem.F.type_list_append append_ (pd_var 2 (pv 2)) (pad_cons (pd_tup (pad_cons (pd_str) (pad_nil))) (pad_nil))))) (psd_nil)) (psd_cons (psd_expr (pd_mt PySem.F.plainAttrs_list PySem.F.slot_list_extend PySem.F.type_list_extend extend_ (pd_var 2 (pv 2)) (pad_cons (pd_frz (pd_call (ok_keys_of T) (hr.mono (by decide)) tk (by rfl) T.gf_keys_of T.f_keys_of.F.kp T.f_keys_of.b (pad_cons (pd_var 9 (pv 9)) (pad_nil)))) (pad_nil)))) (psd_one (psd_par3 (by rfl) sc.nd rfl rfl rfl (by decide) (by decide) (by decide) rfl rfl rfl (pad_cons (pd_var 6 (pv 6)) (pad_cons (pd_if (ptd_cmp (in_ (u65 hr)) (pd_var 9 (pv 9)) (pd_ix ix_ (pd_var 0 (pv 0)) (pd_int) (fun _ _ => rfl)) (by rfl)) (pd_var 7 (pv 7)) (pd_op add_ (pd_var 7 (pv 7)) (pd_int))) (pad_cons (pd_var 10 (pv 10)) (pad_nil)))) (by rfl))))))))) (psd_one (psd_ret (pd_fgt (pd_callTy tuple_ (by rfl) T.b_tuple (by decide +kernel) (pad_cons (pd_var 2 (pv 2)) (pad_nil))))))))))
theorem ok_worked (T : Txt K mg A) : FnOk P w K mg base (L2N.CX P w) 4 T.f_worked.f T.f_worked.fd ["machine", "tabs", "keys"] (spD K 3 (ph_worked A)) := by
  have sc := sc_worked
  refine fnD (b := psi_worked A) T.f_worked.F sc (fun cdv Ar outer s H E hr => ?_) (fun ds m R x h hl => dt_worked T.ad.toAdOk ds m R x h)
  have tk := L2N.takes_of (X := cxD P w K mg base N_worked "worked" s_worked T.f_worked.f cdv Ar outer s H E) (E := E) rfl rfl rfl rfl
  exact psd_cons (psd_set (i := 3) sc.nd rfl (Or.inr rfl) (pd_make T.cl_Machine.mkk (ok_Machine___init__ T) (hr.mono (by decide)) tk (by rfl) T.cl_Machine.g T.f_Machine___init__.b (pad_cons (pd_var 0 (pv 0)) (pad_cons (pd_var 1 (pv 1)) (pad_nil))))) (psd_cons (psd_setLc (i := 4) (own := [("key", 5)]) rfl sc.nd rfl rfl (sw_true rfl rfl rfl (by decide +kernel)) (g_name 5) (lcw_name (by decide)) (pid_seq (pd_var 2 (pv 2))) (blkOk_by (N := N_worked) (sc := defScope s_worked) (by decide +kernel)) (fun _ _ _ _ _ => pg_name (i := 5) sc.nd rfl (by first | exact Or.inl rfl | exact Or.inr rfl)) (fun _ _ _ _ _ => ptsd_nil) (fun _ _ _ _ _ => pd_meth (pd_var 3 (pv 3)) T.cl_Machine.cl T.cl_Machine.m_press (ok_Machine_press T) (hr.mono (by decide)) takesN0 T.f_Machine_press.b (pad_cons (pd_var 5 (pv 5)) (pad_nil)))) (psd_one (psd_ret (pd_tup (pad_cons (pd_var 3 (pv 3)) (pad_cons (pd_var 4 (pv 4)) (pad_nil)))))))
theorem ok_need_both (T : Txt K mg A) : FnOk P w K mg base (L2N.CX P w) 4 T.f_need_both.f T.f_need_both.fd ["machine", "keys"] (spD K 2 (ph_need_both A)) := by
  have sc := sc_need_both
  refine fnD (b := psi_need_both A) T.f_need_both.F sc (fun cdv Ar outer s H E hr => ?_) (fun ds m R x h hl => dt_need_both T.ad.toAdOk ds m R x h)
  have tk := L2N.takes_of (X := cxD P w K mg base N_need_both "need_both" s_need_both T.f_need_both.f cdv Ar outer s H E) (E := E) rfl rfl rfl rfl
  exact psd_cons (psd_expr (pd_call (ok_need_machine T) (hr.mono (by decide)) tk (by rfl) T.gf_need_machine T.f_need_machine.F.kp T.f_need_machine.b (pad_cons (pd_var 0 (pv 0)) (pad_nil)))) (psd_one (psd_expr (pd_call (ok_need_keys T) (hr.mono (by decide)) tk (by rfl) T.gf_need_keys T.f_need_keys.F.kp T.f_need_keys.b (pad_cons (pd_var 1 (pv 1)) (pad_nil)))))
theorem ok__law_pick (T : Txt K mg A) : FnOk P w K mg base (L2N.CX P w) 4 T.f__law_pick.f T.f__law_pick.fd ["script", "town", "some"] (spD K 3 (ph__law_pick A)) := by
  have sc := sc__law_pick
  refine fnD (b := psi__law_pick A) T.f__law_pick.F sc (fun cdv Ar outer s H E hr => ?_) (fun ds m R x h hl => dt__law_pick T.ad.toAdOk ds m R x h)
  have tk := L2N.takes_of (X := cxD P w K mg base N__law_pick "_law_pick" s__law_pick T.f__law_pick.f cdv Ar outer s H E) (E := E) rfl rfl rfl rfl
  exact psd_one (psd_ret (pd_ix ix_ (pd_var 2 (pv 2)) (pd_call (ok__law_draw T) (hr.mono (by decide)) tk (by rfl) T.gf__law_draw T.f__law_draw.F.kp T.f__law_draw.b (pad_cons (pd_var 0 (pv 0)) (pad_cons (pd_var 1 (pv 1)) (pad_cons (pd_callB (len_) (by rfl) T.b_len (by decide +kernel) (pad_cons (pd_var 2 (pv 2)) (pad_nil))) (pad_nil))))) (fun _ _ => rfl)))
theorem ok__law_worked (T : Txt K mg A) : FnOk P w K mg base (L2N.CX P w) 4 T.f__law_worked.f T.f__law_worked.fd ["machine", "tabs", "keys"] (spD K 3 (ph__law_worked A)) := by
  have sc := sc__law_worked
  refine fnD (b := psi__law_worked A) T.f__law_worked.F sc (fun cdv Ar outer s H E hr => ?_) (fun ds m R x h hl => dt__law_worked T.ad.toAdOk ds m R x h)
  have tk := L2N.takes_of (X := cxD P w K mg base N__law_worked "_law_worked" s__law_worked T.f__law_worked.f cdv Ar outer s H E) (E := E) rfl rfl rfl rfl
  exact psd_cons (psd_set (i := 3) sc.nd rfl (Or.inr rfl) (pd_call (ok__law_new T) (hr.mono (by decide)) tk (by rfl) T.gf__law_new T.f__law_new.F.kp T.f__law_new.b (pad_cons (pd_var 0 (pv 0)) (pad_cons (pd_var 1 (pv 1)) (pad_nil))))) (psd_cons (psd_setLc (i := 4) (own := [("key", 5)]) rfl sc.nd rfl rfl (sw_true rfl rfl rfl (by decide +kernel)) (g_name 5) (lcw_name (by decide)) (pid_seq (pd_var 2 (pv 2))) (blkOk_by (N := N__law_worked) (sc := defScope s__law_worked) (by decide +kernel)) (fun _ _ _ _ _ => pg_name (i := 5) sc.nd rfl (by first | exact Or.inl rfl | exact Or.inr rfl)) (fun _ _ _ _ _ => ptsd_nil) (fun _ _ _ _ _ => pd_call (ok__law_press T) (hr.mono (by decide)) takesN0 (by rfl) T.gf__law_press T.f__law_press.F.kp T.f__law_press.b (pad_cons (pd_var 3 (pv 3)) (pad_cons (pd_var 5 (pv 5)) (pad_nil))))) (psd_one (psd_ret (pd_tup (pad_cons (pd_var 3 (pv 3)) (pad_cons (pd_var 4 (pv 4)) (pad_nil)))))))
theorem ok_marks_of (T : Txt K mg A) : FnOk P w K mg base (L2N.CX P w) 5 T.f_marks_of.f T.f_marks_of.fd ["machine", "keys"] (spD K 2 (ph_marks_of A)) := by
  have sc := sc_marks_of
  refine fnD (b := psi_marks_of A) T.f_marks_of.F sc (fun cdv Ar outer s H E hr => ?_) (fun ds m R x h hl => dt_marks_of T.ad.toAdOk ds m R x h)
  have tk := L2N.takes_of (X := cxD P w K mg base N_marks_of "marks_of" s_marks_of T.f_marks_of.f cdv Ar outer s H E) (E := E) rfl rfl rfl rfl
  exact psd_cons (psd_asg (pd_call (ok_worked T) (hr.mono (by decide)) tk (by rfl) T.gf_worked T.f_worked.F.kp T.f_worked.b (pad_cons (pd_var 0 (pv 0)) (pad_cons (pd_tup (pad_nil)) (pad_cons (pd_var 1 (pv 1)) (pad_nil))))) (pg_tup rfl (pgs_cons (pg_name (i := 2) sc.nd rfl (Or.inl rfl)) (pgs_cons (pg_name (i := 3) sc.nd rfl (Or.inl rfl)) (pgs_nil)))) (g_tup [2, 3])) (psd_cons (psd_set (i := 4) sc.nd rfl (Or.inl rfl) (pd_callB (sortD_ (u65 hr)) (by rfl) T.b_sorted (by decide +kernel) (pad_cons (pd_lc (own := [("mark", 5)]) rfl sc.nd (g_name 5) (lcw_name (by decide)) (pid_seq (pd_fld (pd_var 2 (pv 2)) T.cl_Machine.cl T.cl_Machine.n_marks)) (blkOk_by (N := N_marks_of) (sc := defScope s_marks_of) (by decide +kernel)) (fun _ _ _ _ _ => pg_name (i := 5) sc.nd rfl (by first | exact Or.inl rfl | exact Or.inr rfl)) (fun _ _ _ _ _ => ptsd_nil) (fun _ _ _ _ _ => pd_tup (pad_cons (pd_ix ix_ (pd_var 5 (pv 5)) (pd_int) (fun _ _ => rfl)) (pad_cons (pd_ix ix_ (pd_var 5 (pv 5)) (pd_int) (fun _ _ => rfl)) (pad_cons (pd_ix ix_ (pd_var 5 (pv 5)) (pd_int) (fun _ _ => rfl)) (pad_cons (pd_sl cut_ (pd_var 5 (pv 5)) (pod_some (pd_int)) (pod_none)) (pad_nil))))))) (pad_nil)))) (psd_one (psd_ret (pd_fgt (pd_lc (own := [("row", 6), ("place", 7), ("number", 8), ("mark", 5)]) rfl sc.nd (g_tup [6, 7, 8, 5]) (lcw_tup (by decide)) (pid_seq (pd_var 4 (pv 4))) (blkOk_by (N := N_marks_of) (sc := defScope s_marks_of) (by decide +kernel)) (fun _ _ _ _ _ => pg_tup rfl (pgs_cons (pg_name (i := 6) sc.nd rfl (by first | exact Or.inl rfl | exact Or.inr rfl)) (pgs_cons (pg_name (i := 7) sc.nd rfl (by first | exact Or.inl rfl | exact Or.inr rfl)) (pgs_cons (pg_name (i := 8) sc.nd rfl (by first | exact Or.inl rfl | exact Or.inr rfl)) (pgs_cons (pg_name (i := 5) sc.nd rfl (by first | exact Or.inl rfl | exact Or.inr rfl)) (pgs_nil)))))) (fun _ _ _ _ _ => ptsd_nil) (fun _ _ _ _ _ => pd_op add_ (pd_tup (pad_cons (pd_var 8 (pv 8)) (pad_nil))) (pd_var 5 (pv 5))))))))
theorem ok__law_machine (T : Txt K mg A) : FnOk P w K mg base (L2N.CX P w) 5 T.f__law_machine.f T.f__law_machine.fd ["script", "town"] (spD K 2 (ph__law_machine A)) := by
  have sc := sc__law_machine
  refine fnD (b := psi__law_machine A) T.f__law_machine.F sc (fun cdv Ar outer s H E hr => ?_) (fun ds m R x h hl => dt__law_machine T.ad.toAdOk ds m R x h)
  have tk := L2N.takes_of (X := cxD P w K mg base N__law_machine "_law_machine" s__law_machine T.f__law_machine.f cdv Ar outer s H E) (E := E) rfl rfl rfl rfl
  exact psd_cons (psd_set (i := 2) sc.nd rfl (Or.inl rfl) (pd_call (ok__law_pick T) (hr.mono (by decide)) tk (by rfl) T.gf__law_pick T.f__law_pick.F.kp T.f__law_pick.b (pad_cons (pd_var 0 (pv 0)) (pad_cons (pd_var 1 (pv 1)) (pad_cons (pd_lst (pad_cons (pd_int) (pad_cons (pd_int) (pad_cons (pd_int) (pad_cons (pd_int) (pad_cons (pd_int) (pad_cons (pd_int) (pad_nil)))))))) (pad_nil)))))) (psd_cons (psd_set (i := 3) sc.nd rfl (Or.inl rfl) (pd_callTy tuple_ (by rfl) T.b_tuple (by decide +kernel) (pad_cons (pd_lc (own := [("sign", 4)]) rfl sc.nd (g_name 4) (lcw_name (by decide)) (pid_seq (pd_tup (pad_cons (pd_str) (pad_cons (pd_str) (pad_cons (pd_str) (pad_nil)))))) (blkOk_by (N := N__law_machine) (sc := defScope s__law_machine) (by decide +kernel)) (fun _ _ _ _ _ => pg_name (i := 4) sc.nd rfl (by first | exact Or.inl rfl | exact Or.inr rfl)) (fun _ _ _ _ _ => pts_one (ptd_cmp (eq_ (u64 hr)) (pd_call (ok__law_draw T) (hr.mono (by decide)) takesN0 (by rfl) T.gf__law_draw T.f__law_draw.F.kp T.f__law_draw.b (pad_cons (pd_var 0 (pv 0)) (pad_cons (pd_var 1 (pv 1)) (pad_cons (pd_int) (pad_nil))))) (pd_int) (nomark _))) (fun _ _ _ _ _ => pd_var 4 (pv 4))) (pad_nil)))) (psd_one (psd_ret (pd_tup (pad_cons (pd_var 2 (pv 2)) (pad_cons (pd_var 3 (pv 3)) (pad_cons (pd_op add_ (pd_int) (pd_call (ok__law_draw T) (hr.mono (by decide)) tk (by rfl) T.gf__law_draw T.f__law_draw.F.kp T.f__law_draw.b (pad_cons (pd_var 0 (pv 0)) (pad_cons (pd_var 1 (pv 1)) (pad_cons (pd_int) (pad_nil)))))) (pad_nil))))))))
theorem ok__law_ask (T : Txt K mg A) : FnOk P w K mg base (L2N.CX P w) 5 T.f__law_ask.f T.f__law_ask.fd ["machine", "some"] (spD K 2 (ph__law_ask A)) := by
  have sc := sc__law_ask
  refine fnD (b := psi__law_ask A) T.f__law_ask.F sc (fun cdv Ar outer s H E hr => ?_) (fun ds m R x h hl => dt__law_ask T.ad ds m R x h)
  have tk := L2N.takes_of (X := cxD P w K mg base N__law_ask "_law_ask" s__law_ask T.f__law_ask.f cdv Ar outer s H E) (E := E) rfl rfl rfl rfl
  exact psd_one (psd_tryW (i := 2) rfl rfl sc.nd rfl rfl ⟨by rfl, by decide, .inl T.x_InkError.g⟩ tk rfl (hr.mono (by decide)) (by rfl) T.gf__law_which T.f__law_which.F.kp T.f__law_which.b (wh_ok T) (fun W pn xe tk => psd_one (psd_ret (pd_call (ok_keys_for T) (hr.mono (by decide)) tk (by rfl) T.gf_keys_for T.f_keys_for.F.kp T.f_keys_for.b (pad_cons (pd_var 0 (pv 0)) (pad_cons (pd_var 1 (pv 1)) (pad_nil)))))))
theorem ok_strikes (T : Txt K mg A) : FnOk P w K mg base (L2N.CX P w) 6 T.f_strikes.f T.f_strikes.fd ["machine", "keys"] (spD K 2 (ph_strikes A)) := by
  have sc := sc_strikes
  refine fnD (b := psi_strikes A) T.f_strikes.F sc (fun cdv Ar outer s H E hr => ?_) (fun ds m R x h hl => dt_strikes T.ad.toAdOk ds m R x h)
  have tk := L2N.takes_of (X := cxD P w K mg base N_strikes "strikes" s_strikes T.f_strikes.f cdv Ar outer s H E) (E := E) rfl rfl rfl rfl
  exact psd_cons (psd_expr (pd_call (ok_need_both T) (hr.mono (by decide)) tk (by rfl) T.gf_need_both T.f_need_both.F.kp T.f_need_both.b (pad_cons (pd_var 0 (pv 0)) (pad_cons (pd_var 1 (pv 1)) (pad_nil))))) (psd_one (psd_ret (pd_lc (own := [("mark", 2)]) rfl sc.nd (g_name 2) (lcw_name (by decide)) (pid_seq (pd_call (ok_marks_of T) (hr.mono (by decide)) tk (by rfl) T.gf_marks_of T.f_marks_of.F.kp T.f_marks_of.b (pad_cons (pd_var 0 (pv 0)) (pad_cons (pd_var 1 (pv 1)) (pad_nil))))) (blkOk_by (N := N_strikes) (sc := defScope s_strikes) (by decide +kernel)) (fun _ _ _ _ _ => pg_name (i := 2) sc.nd rfl (by first | exact Or.inl rfl | exact Or.inr rfl)) (fun _ _ _ _ _ => ptsd_nil) (fun _ _ _ _ _ => pd_sl cut_ (pd_var 2 (pv 2)) (pod_some (pd_int)) (pod_none)))))
theorem ok_law (T : Txt K mg A) : FnOk P w K mg base (L2N.CX P w) 7 T.f_law.f T.f_law.fd ["script"] (spD K 1 (ph_law A)) := by
  have sc := sc_law
  refine fnD (b := psi_law A) T.f_law.F sc (fun cdv Ar outer s H E hr => ?_) (fun ds m R x h hl => dt_law T.ad ds m R x h)
  have tk := L2N.takes_of (X := cxD P w K mg base N_law "law" s_law T.f_law.f cdv Ar outer s H E) (E := E) rfl rfl rfl rfl
  exact psd_cons (psd_set (i := 1) sc.nd rfl (Or.inl rfl) (pd_lst (pad_nil))) (psd_cons (psd_set (i := 2) sc.nd rfl (Or.inl rfl) (pd_call (ok__law_pick T) (hr.mono (by decide)) tk (by rfl) T.gf__law_pick T.f__law_pick.F.kp T.f__law_pick.b (pad_cons (pd_var 0 (pv 0)) (pad_cons (pd_var 1 (pv 1)) (pad_cons (pd_lst (pad_cons (pd_int) (pad_cons (pd_int) (pad_nil)))) (pad_nil)))))) (psd_cons (psd_set (i := 3) sc.nd rfl (Or.inl rfl) (pd_call (ok__law_draw T) (hr.mono (by decide)) tk (by rfl) T.gf__law_draw T.f__law_draw.F.kp T.f__law_draw.b (pad_cons (pd_var 0 (pv 0)) (pad_cons (pd_var 1 (pv 1)) (pad_cons (pd_int) (pad_nil)))))) (psd_cons (psd_set (i := 4) sc.nd rfl (Or.inl rfl) (pd_call (ok__law_machine T) (hr.mono (by decide)) tk (by rfl) T.gf__law_machine T.f__law_machine.F.kp T.f__law_machine.b (pad_cons (pd_var 0 (pv 0)) (pad_cons (pd_var 1 (pv 1)) (pad_nil))))) (psd_cons (psd_set (i := 5) sc.nd rfl (Or.inl rfl) (pd_op mul_ (pd_int) (pd_ix ix_ (pd_var 4 (pv 4)) (pd_int) (fun _ _ => rfl)))) (psd_cons (psd_set (i := 6) sc.nd rfl (Or.inr rfl) (pd_lst (pad_nil))) (psd_cons (psd_for (L2.passes_of rfl) rfl (pid_range1 (by rfl) T.b_range (pd_var 3 (pv 3))) (pg_name (i := 7) sc.nd rfl (Or.inl rfl)) (g_name 7) (psd_cons (psd_set (i := 8) sc.nd rfl (Or.inl rfl) (pd_call (ok__law_draw T) (hr.mono (by decide)) tk (by rfl) T.gf__law_draw T.f__law_draw.F.kp T.f__law_draw.b (pad_cons (pd_var 0 (pv 0)) (pad_cons (pd_var 1 (pv 1)) (pad_cons (pd_call (ok__law_pick T) (hr.mono (by decide)) tk (by rfl) T.gf__law_pick T.f__law_pick.F.kp T.f__law_pick.b (pad_cons (pd_var 0 (pv 0)) (pad_cons (pd_var 1 (pv 1)) (pad_cons (pd_lst (pad_cons (pd_int) (pad_cons (pd_op sub_ (pd_var 5 (pv 5)) (pd_int)) (pad_nil)))) (pad_nil))))) (pad_nil)))))) (psd_cons (psd_set (i := 9) sc.nd rfl (Or.inl rfl) (pd_call (ok__law_pick T) (hr.mono (by decide)) tk (by rfl) T.gf__law_pick T.f__law_pick.F.kp T.f__law_pick.b (pad_cons (pd_var 0 (pv 0)) (pad_cons (pd_var 1 (pv 1)) (pad_cons (pd_lst (pad_cons (pd_str) (pad_cons (pd_str) (pad_nil)))) (pad_nil)))))) (psd_one (psd_expr (pd_mt PySem.F.plainAttrs_list PySem.F.slot_list_append PySem.F.type_list_append append_ (pd_var 6 (pv 6)) (pad_cons (pd_tup (pad_cons (pd_call (ok__law_draw T) (hr.mono (by decide)) tk (by rfl) T.gf__law_draw T.f__law_draw.F.kp T.f__law_draw.b (pad_cons (pd_var 0 (pv 0)) (pad_cons (pd_var 1 (pv 1)) (pad_cons (pd_var 2 (pv 2)) (pad_nil))))) (pad_cons (pd_var 8 (pv 8)) (pad_cons (pd_call (ok__law_pick T) (hr.mono (by decide)) tk (by rfl) T.gf__law_pick T.f__law_pick.F.kp T.f__law_pick.b (pad_cons (pd_var 0 (pv 0)) (pad_cons (pd_var 1 (pv 1)) (pad_cons (pd_str) (pad_nil))))) (pad_cons (pd_var 9 (pv 9)) (pad_nil)))))) (pad_nil)))))))) (psd_cons (psd_set (i := 10) sc.nd rfl (Or.inl rfl) (pd_call (ok__law_ask T) (hr.mono (by decide)) tk (by rfl) T.gf__law_ask T.f__law_ask.F.kp T.f__law_ask.b (pad_cons (pd_var 4 (pv 4)) (pad_cons (pd_var 6 (pv 6)) (pad_nil))))) (psd_cons (psd_if (ptd_not (ptd_val (pd_callB (isi_) (by rfl) T.b_isinstance (by decide +kernel) (pad_cons (pd_var 10 (pv 10)) (pad_cons (pd_bty T.b_tuple (by decide +kernel) (by rfl)) (pad_nil)))))) (psd_one (psd_ret (pd_bl))) (psd_nil)) (psd_cons (psd_asg (pd_call (ok__law_worked T) (hr.mono (by decide)) tk (by rfl) T.gf__law_worked T.f__law_worked.F.kp T.f__law_worked.b (pad_cons (pd_var 4 (pv 4)) (pad_cons (pd_tup (pad_nil)) (pad_cons (pd_var 10 (pv 10)) (pad_nil))))) (pg_tup rfl (pgs_cons (pg_name (i := 11) sc.nd rfl (Or.inl rfl)) (pgs_cons (pg_name (i := 12) sc.nd rfl (Or.inl rfl)) (pgs_nil)))) (g_tup [11, 12])) (psd_cons (psd_if (ptd_cmp (in_ (u65 hr)) (pd_tup (pad_cons (pd_str) (pad_nil))) (pd_var 12 (pv 12)) (by rfl)) (psd_one (psd_ret (pd_bl))) (psd_nil)) (psd_cons (psd_set (i := 13) sc.nd rfl (Or.inl rfl) (pd_callB (sortD_ (u65 hr)) (by rfl) T.b_sorted (by decide +kernel) (pad_cons (pd_lc (own := [("k", 7), ("one", 17)]) rfl sc.nd (g_tup [7, 17]) (lcw_tup (by decide)) (pid_enum (by rfl) T.b_enumerate (pd_var 6 (pv 6))) (blkOk_by (N := N_law) (sc := defScope s_law) (by decide +kernel)) (fun _ _ _ _ _ => pg_tup rfl (pgs_cons (pg_name (i := 7) sc.nd rfl (by first | exact Or.inl rfl | exact Or.inr rfl)) (pgs_cons (pg_name (i := 17) sc.nd rfl (by first | exact Or.inl rfl | exact Or.inr rfl)) (pgs_nil)))) (fun _ _ _ _ _ => ptsd_nil) (fun _ _ _ _ _ => pd_tup (pad_cons (pd_ix ix_ (pd_var 17 (pv 17)) (pd_int) (fun _ _ => rfl)) (pad_cons (pd_ix ix_ (pd_var 17 (pv 17)) (pd_int) (fun _ _ => rfl)) (pad_cons (pd_var 7 (pv 7)) (pad_nil)))))) (pad_nil)))) (psd_cons (psd_setLc (i := 14) (own := [("high", 18), ("place", 8), ("k", 7)]) rfl sc.nd rfl rfl (sw_true rfl rfl rfl (by decide +kernel)) (g_tup [18, 8, 7]) (lcw_tup (by decide)) (pid_seq (pd_var 13 (pv 13))) (blkOk_by (N := N_law) (sc := defScope s_law) (by decide +kernel)) (fun _ _ _ _ _ => pg_tup rfl (pgs_cons (pg_name (i := 18) sc.nd rfl (by first | exact Or.inl rfl | exact Or.inr rfl)) (pgs_cons (pg_name (i := 8) sc.nd rfl (by first | exact Or.inl rfl | exact Or.inr rfl)) (pgs_cons (pg_name (i := 7) sc.nd rfl (by first | exact Or.inl rfl | exact Or.inr rfl)) (pgs_nil))))) (fun _ _ _ _ _ => ptsd_nil) (fun _ _ _ _ _ => pd_ix ix_ (pd_var 6 (pv 6)) (pd_var 7 (pv 7)) (fun _ _ => rfl))) (psd_cons (psd_if (PW.pt (pwd_or (ptd_cmp (ne_ (u64 hr)) (pd_lc (own := [("mark", 19)]) rfl sc.nd (g_name 19) (lcw_name (by decide)) (pid_seq (pd_call (ok__law_marks T) (hr.mono (by decide)) tk (by rfl) T.gf__law_marks T.f__law_marks.F.kp T.f__law_marks.b (pad_cons (pd_var 11 (pv 11)) (pad_nil)))) (blkOk_by (N := N_law) (sc := defScope s_law) (by decide +kernel)) (fun _ _ _ _ _ => pg_name (i := 19) sc.nd rfl (by first | exact Or.inl rfl | exact Or.inr rfl)) (fun _ _ _ _ _ => ptsd_nil) (fun _ _ _ _ _ => pd_sl cut_ (pd_var 19 (pv 19)) (pod_some (pd_int)) (pod_none))) (pd_var 14 (pv 14)) (nomark _)) (pwd_or1 (ptd_cmp (ne_ (u64 hr)) (pd_call (ok_strikes T) (hr.mono (by decide)) tk (by rfl) T.gf_strikes T.f_strikes.F.kp T.f_strikes.b (pad_cons (pd_var 4 (pv 4)) (pad_cons (pd_var 10 (pv 10)) (pad_nil)))) (pd_var 14 (pv 14)) (nomark _))))) (psd_one (psd_ret (pd_bl))) (psd_nil)) (psd_cons (psd_set (i := 15) sc.nd rfl (Or.inl rfl) (pd_lst (pad_cons (pd_non) (pad_cons (pd_callTy tuple_ (by rfl) T.b_tuple (by decide +kernel) (pad_cons (pd_var 6 (pv 6)) (pad_nil))) (pad_cons (pd_lst (pad_cons (pd_non) (pad_nil))) (pad_cons (pd_lst (pad_cons (pd_tup (pad_cons (pd_int) (pad_cons (pd_int) (pad_cons (pd_str) (pad_nil))))) (pad_nil))) (pad_cons (pd_lst (pad_cons (pd_tup (pad_cons (pd_int) (pad_cons (pd_op sub_ (pd_var 5 (pv 5)) (pd_int)) (pad_cons (pd_str) (pad_cons (pd_str) (pad_nil)))))) (pad_nil))) (pad_cons (pd_lst (pad_cons (pd_tup (pad_cons (pd_int) (pad_cons (pd_int) (pad_cons (pd_str) (pad_cons (pd_str) (pad_nil)))))) (pad_nil))) (pad_nil))))))))) (psd_cons (psd_expr (pd_mt PySem.F.plainAttrs_list PySem.F.slot_list_extend PySem.F.type_list_extend extend_ (pd_var 15 (pv 15)) (pad_cons (pd_lst (pad_cons (pd_lst (pad_cons (pd_tup (pad_cons (pd_int) (pad_cons (pd_int) (pad_cons (pd_str) (pad_cons (pd_str) (pad_nil)))))) (pad_nil))) (pad_cons (pd_lst (pad_cons (pd_lst (pad_cons (pd_int) (pad_cons (pd_int) (pad_cons (pd_str) (pad_cons (pd_str) (pad_nil)))))) (pad_nil))) (pad_cons (pd_lst (pad_cons (pd_tup (pad_cons (pd_un neg_ (pd_int)) (pad_cons (pd_int) (pad_cons (pd_str) (pad_cons (pd_str) (pad_nil)))))) (pad_nil))) (pad_cons (pd_lst (pad_cons (pd_tup (pad_cons (pd_int) (pad_cons (pd_bl) (pad_cons (pd_str) (pad_cons (pd_str) (pad_nil)))))) (pad_nil))) (pad_nil)))))) (pad_nil)))) (psd_cons (psd_expr (pd_mt PySem.F.plainAttrs_list PySem.F.slot_list_extend PySem.F.type_list_extend extend_ (pd_var 15 (pv 15)) (pad_cons (pd_lst (pad_cons (pd_lst (pad_cons (pd_tup (pad_cons (pd_int) (pad_cons (pd_int) (pad_cons (pd_str) (pad_cons (pd_str) (pad_nil)))))) (pad_nil))) (pad_cons (pd_op mul_ (pd_lst (pad_cons (pd_tup (pad_cons (pd_int) (pad_cons (pd_int) (pad_cons (pd_str) (pad_cons (pd_str) (pad_nil)))))) (pad_nil))) (pd_int)) (pad_cons (pd_lst (pad_cons (pd_tup (pad_cons (pd_int) (pad_cons (pd_int) (pad_cons (pd_non) (pad_cons (pd_str) (pad_nil)))))) (pad_nil))) (pad_cons (pd_lst (pad_cons (pd_tup (pad_cons (pd_int) (pad_cons (pd_int) (pad_cons (pd_str) (pad_cons (pd_non) (pad_nil)))))) (pad_nil))) (pad_nil)))))) (pad_nil)))) (psd_cons (psd_if (ptd_cmp (ne_ (u64 hr)) (pd_call (ok__law_ask T) (hr.mono (by decide)) tk (by rfl) T.gf__law_ask T.f__law_ask.F.kp T.f__law_ask.b (pad_cons (pd_var 4 (pv 4)) (pad_cons (pd_call (ok__law_pick T) (hr.mono (by decide)) tk (by rfl) T.gf__law_pick T.f__law_pick.F.kp T.f__law_pick.b (pad_cons (pd_var 0 (pv 0)) (pad_cons (pd_var 1 (pv 1)) (pad_cons (pd_op add_ (pd_var 15 (pv 15)) (pd_lst (pad_cons (pd_lst (pad_cons (pd_tup (pad_cons (pd_int) (pad_cons (pd_int) (pad_cons (pd_str) (pad_cons (pd_str) (pad_nil)))))) (pad_nil))) (pad_nil)))) (pad_nil))))) (pad_nil)))) (pd_tup (pad_cons (pd_str) (pad_cons (pd_int) (pad_nil)))) (nomark _)) (psd_one (psd_ret (pd_bl))) (psd_nil)) (psd_cons (psd_set (i := 16) sc.nd rfl (Or.inl rfl) (pd_lst (pad_cons (pd_tup (pad_cons (pd_int) (pad_cons (pd_int) (pad_cons (pd_str) (pad_cons (pd_str) (pad_nil)))))) (pad_cons (pd_tup (pad_cons (pd_int) (pad_cons (pd_int) (pad_cons (pd_str) (pad_cons (pd_str) (pad_nil)))))) (pad_cons (pd_tup (pad_cons (pd_int) (pad_cons (pd_op sub_ (pd_var 5 (pv 5)) (pd_int)) (pad_cons (pd_str) (pad_cons (pd_str) (pad_nil)))))) (pad_nil)))))) (psd_one (psd_ret (pd_cmp (eq_ (u64 hr)) (pd_call (ok_strikes T) (hr.mono (by decide)) tk (by rfl) T.gf_strikes T.f_strikes.F.kp T.f_strikes.b (pad_cons (pd_var 4 (pv 4)) (pad_cons (pd_call (ok__law_ask T) (hr.mono (by decide)) tk (by rfl) T.gf__law_ask T.f__law_ask.F.kp T.f__law_ask.b (pad_cons (pd_var 4 (pv 4)) (pad_cons (pd_revL (pd_var 16 (pv 16))) (pad_nil)))) (pad_nil)))) (pd_var 16 (pv 16)) (nomark _))))))))))))))))))))))
end
end DL.K08
end
section
set_option maxHeartbeats 0
namespace DL.K08
open PySem PySem.Spec PyProof.Rows L2 DL
theorem all_mk {P : Program} {w : World} {K : PySem.W.Frag} {h : Heap} {mg : Str → Option Value} {fa : Addr} {C_InkError : Addr} {C_NoMachine : Addr} {C_NoKeys : Addr} {C_NoKey : Addr} {C_NoPlace : Addr} {C_NoGoal : Addr} {C_NoStrikes : Addr} {C_NoText : Addr} {C_NoNumbers : Addr} {C_TooWide : Addr} {C_Nothing : Addr} {C_Machine : Addr} {f_is_whole : Addr} {oc_is_whole kV_is_whole dc_is_whole pm_is_whole cd_is_whole ct_is_whole : Value} {od_is_whole an_is_whole : Option Addr} {sl_is_whole : Array (Option Value)} {f_is_one_of : Addr} {oc_is_one_of kV_is_one_of dc_is_one_of pm_is_one_of cd_is_one_of ct_is_one_of : Value} {od_is_one_of an_is_one_of : Option Addr} {sl_is_one_of : Array (Option Value)} {f_is_rising : Addr} {oc_is_rising kV_is_rising dc_is_rising pm_is_rising cd_is_rising ct_is_rising : Value} {od_is_rising an_is_rising : Option Addr} {sl_is_rising : Array (Option Value)} {f_is_machine : Addr} {oc_is_machine kV_is_machine dc_is_machine pm_is_machine cd_is_machine ct_is_machine : Value} {od_is_machine an_is_machine : Option Addr} {sl_is_machine : Array (Option Value)} {f_need_machine : Addr} {oc_need_machine kV_need_machine dc_need_machine pm_need_machine cd_need_machine ct_need_machine : Value} {od_need_machine an_need_machine : Option Addr} {sl_need_machine : Array (Option Value)} {f_end_of : Addr} {oc_end_of kV_end_of dc_end_of pm_end_of cd_end_of ct_end_of : Value} {od_end_of an_end_of : Option Addr} {sl_end_of : Array (Option Value)} {f_is_key : Addr} {oc_is_key kV_is_key dc_is_key pm_is_key cd_is_key ct_is_key : Value} {od_is_key an_is_key : Option Addr} {sl_is_key : Array (Option Value)} {f_need_keys : Addr} {oc_need_keys kV_need_keys dc_need_keys pm_need_keys cd_need_keys ct_need_keys : Value} {od_need_keys an_need_keys : Option Addr} {sl_need_keys : Array (Option Value)} {f_struck_as : Addr} {oc_struck_as kV_struck_as dc_struck_as pm_struck_as cd_struck_as ct_struck_as : Value} {od_struck_as an_struck_as : Option Addr} {sl_struck_as : Array (Option Value)} {f_key_for : Addr} {oc_key_for kV_key_for dc_key_for pm_key_for cd_key_for ct_key_for : Value} {od_key_for an_key_for : Option Addr} {sl_key_for : Array (Option Value)} {f_is_strike : Addr} {oc_is_strike kV_is_strike dc_is_strike pm_is_strike cd_is_strike ct_is_strike : Value} {od_is_strike an_is_strike : Option Addr} {sl_is_strike : Array (Option Value)} {f_led : Addr} {oc_led kV_led dc_led pm_led cd_led ct_led : Value} {od_led an_led : Option Addr} {sl_led : Array (Option Value)} {f_home_row : Addr} {oc_home_row kV_home_row dc_home_row pm_home_row cd_home_row ct_home_row : Value} {od_home_row an_home_row : Option Addr} {sl_home_row : Array (Option Value)} {f_home : Addr} {oc_home kV_home dc_home pm_home cd_home ct_home : Value} {od_home an_home : Option Addr} {sl_home : Array (Option Value)} {f_keys_for : Addr} {oc_keys_for kV_keys_for dc_keys_for pm_keys_for cd_keys_for ct_keys_for : Value} {od_keys_for an_keys_for : Option Addr} {sl_keys_for : Array (Option Value)} {f_keys_of : Addr} {oc_keys_of kV_keys_of dc_keys_of pm_keys_of cd_keys_of ct_keys_of : Value} {od_keys_of an_keys_of : Option Addr} {sl_keys_of : Array (Option Value)} {f_Machine___init__ : Addr} {oc_Machine___init__ kV_Machine___init__ dc_Machine___init__ pm_Machine___init__ cd_Machine___init__ ct_Machine___init__ : Value} {od_Machine___init__ an_Machine___init__ : Option Addr} {sl_Machine___init__ : Array (Option Value)} {f_Machine_is_locked : Addr} {oc_Machine_is_locked kV_Machine_is_locked dc_Machine_is_locked pm_Machine_is_locked cd_Machine_is_locked ct_Machine_is_locked : Value} {od_Machine_is_locked an_Machine_is_locked : Option Addr} {sl_Machine_is_locked : Array (Option Value)} {f_Machine_go_on : Addr} {oc_Machine_go_on kV_Machine_go_on dc_Machine_go_on pm_Machine_go_on cd_Machine_go_on ct_Machine_go_on : Value} {od_Machine_go_on an_Machine_go_on : Option Addr} {sl_Machine_go_on : Array (Option Value)} {f_Machine_strike : Addr} {oc_Machine_strike kV_Machine_strike dc_Machine_strike pm_Machine_strike cd_Machine_strike ct_Machine_strike : Value} {od_Machine_strike an_Machine_strike : Option Addr} {sl_Machine_strike : Array (Option Value)} {f_Machine_lift : Addr} {oc_Machine_lift kV_Machine_lift dc_Machine_lift pm_Machine_lift cd_Machine_lift ct_Machine_lift : Value} {od_Machine_lift an_Machine_lift : Option Addr} {sl_Machine_lift : Array (Option Value)} {f_Machine_move : Addr} {oc_Machine_move kV_Machine_move dc_Machine_move pm_Machine_move cd_Machine_move ct_Machine_move : Value} {od_Machine_move an_Machine_move : Option Addr} {sl_Machine_move : Array (Option Value)} {f_Machine_roll : Addr} {oc_Machine_roll kV_Machine_roll dc_Machine_roll pm_Machine_roll cd_Machine_roll ct_Machine_roll : Value} {od_Machine_roll an_Machine_roll : Option Addr} {sl_Machine_roll : Array (Option Value)} {f_Machine_set_up : Addr} {oc_Machine_set_up kV_Machine_set_up dc_Machine_set_up pm_Machine_set_up cd_Machine_set_up ct_Machine_set_up : Value} {od_Machine_set_up an_Machine_set_up : Option Addr} {sl_Machine_set_up : Array (Option Value)} {f_Machine_press : Addr} {oc_Machine_press kV_Machine_press dc_Machine_press pm_Machine_press cd_Machine_press ct_Machine_press : Value} {od_Machine_press an_Machine_press : Option Addr} {sl_Machine_press : Array (Option Value)} {f_Machine_stand : Addr} {oc_Machine_stand kV_Machine_stand dc_Machine_stand pm_Machine_stand cd_Machine_stand ct_Machine_stand : Value} {od_Machine_stand an_Machine_stand : Option Addr} {sl_Machine_stand : Array (Option Value)} {f_worked : Addr} {oc_worked kV_worked dc_worked pm_worked cd_worked ct_worked : Value} {od_worked an_worked : Option Addr} {sl_worked : Array (Option Value)} {f_need_both : Addr} {oc_need_both kV_need_both dc_need_both pm_need_both cd_need_both ct_need_both : Value} {od_need_both an_need_both : Option Addr} {sl_need_both : Array (Option Value)} {f_marks_of : Addr} {oc_marks_of kV_marks_of dc_marks_of pm_marks_of cd_marks_of ct_marks_of : Value} {od_marks_of an_marks_of : Option Addr} {sl_marks_of : Array (Option Value)} {f_strikes : Addr} {oc_strikes kV_strikes dc_strikes pm_strikes cd_strikes ct_strikes : Value} {od_strikes an_strikes : Option Addr} {sl_strikes : Array (Option Value)} {f__law_cell_at : Addr} {oc__law_cell_at kV__law_cell_at dc__law_cell_at pm__law_cell_at cd__law_cell_at ct__law_cell_at : Value} {od__law_cell_at an__law_cell_at : Option Addr} {sl__law_cell_at : Array (Option Value)} {f__law_mixed : Addr} {oc__law_mixed kV__law_mixed dc__law_mixed pm__law_mixed cd__law_mixed ct__law_mixed : Value} {od__law_mixed an__law_mixed : Option Addr} {sl__law_mixed : Array (Option Value)} {f__law_draw : Addr} {oc__law_draw kV__law_draw dc__law_draw pm__law_draw cd__law_draw ct__law_draw : Value} {od__law_draw an__law_draw : Option Addr} {sl__law_draw : Array (Option Value)} {f__law_pick : Addr} {oc__law_pick kV__law_pick dc__law_pick pm__law_pick cd__law_pick ct__law_pick : Value} {od__law_pick an__law_pick : Option Addr} {sl__law_pick : Array (Option Value)} {f__law_machine : Addr} {oc__law_machine kV__law_machine dc__law_machine pm__law_machine cd__law_machine ct__law_machine : Value} {od__law_machine an__law_machine : Option Addr} {sl__law_machine : Array (Option Value)} {f__law_new : Addr} {oc__law_new kV__law_new dc__law_new pm__law_new cd__law_new ct__law_new : Value} {od__law_new an__law_new : Option Addr} {sl__law_new : Array (Option Value)} {f__law_shut : Addr} {oc__law_shut kV__law_shut dc__law_shut pm__law_shut cd__law_shut ct__law_shut : Value} {od__law_shut an__law_shut : Option Addr} {sl__law_shut : Array (Option Value)} {f__law_go : Addr} {oc__law_go kV__law_go dc__law_go pm__law_go cd__law_go ct__law_go : Value} {od__law_go an__law_go : Option Addr} {sl__law_go : Array (Option Value)} {f__law_as : Addr} {oc__law_as kV__law_as dc__law_as pm__law_as cd__law_as ct__law_as : Value} {od__law_as an__law_as : Option Addr} {sl__law_as : Array (Option Value)} {f__law_ink : Addr} {oc__law_ink kV__law_ink dc__law_ink pm__law_ink cd__law_ink ct__law_ink : Value} {od__law_ink an__law_ink : Option Addr} {sl__law_ink : Array (Option Value)} {f__law_turn : Addr} {oc__law_turn kV__law_turn dc__law_turn pm__law_turn cd__law_turn ct__law_turn : Value} {od__law_turn an__law_turn : Option Addr} {sl__law_turn : Array (Option Value)} {f__law_step : Addr} {oc__law_step kV__law_step dc__law_step pm__law_step cd__law_step ct__law_step : Value} {od__law_step an__law_step : Option Addr} {sl__law_step : Array (Option Value)} {f__law_press : Addr} {oc__law_press kV__law_press dc__law_press pm__law_press cd__law_press ct__law_press : Value} {od__law_press an__law_press : Option Addr} {sl__law_press : Array (Option Value)} {f__law_worked : Addr} {oc__law_worked kV__law_worked dc__law_worked pm__law_worked cd__law_worked ct__law_worked : Value} {od__law_worked an__law_worked : Option Addr} {sl__law_worked : Array (Option Value)} {f__law_marks : Addr} {oc__law_marks kV__law_marks dc__law_marks pm__law_marks cd__law_marks ct__law_marks : Value} {od__law_marks an__law_marks : Option Addr} {sl__law_marks : Array (Option Value)} {f__law_which : Addr} {oc__law_which kV__law_which dc__law_which pm__law_which cd__law_which ct__law_which : Value} {od__law_which an__law_which : Option Addr} {sl__law_which : Array (Option Value)} {f__law_ask : Addr} {oc__law_ask kV__law_ask dc__law_ask pm__law_ask cd__law_ask ct__law_ask : Value} {od__law_ask an__law_ask : Option Addr} {sl__law_ask : Array (Option Value)} {f_law : Addr} {oc_law kV_law dc_law pm_law cd_law ct_law : Value} {od_law an_law : Option Addr} {sl_law : Array (Option Value)} {v_LETTERS : Value} {v_GREAT : Value} {v_DEAD : Value} {v_SIGNS : Value} {v_MOVES : Addr} {od_MOVES : Option Addr} {its_MOVES : Array Value} {n_MOVES : Nat} {sl_MOVES : Array (Option Value)} {v_TURNS : Addr} {od_TURNS : Option Addr} {its_TURNS : Array Value} {n_TURNS : Nat} {sl_TURNS : Array (Option Value)} {v_LEAST : Value} {v_WIDEST : Value} {v_KEYS : Value} {v_ROWS : Value} {v_COLOURS : Addr} {od_COLOURS : Option Addr} {its_COLOURS : Array Value} {n_COLOURS : Nat} {sl_COLOURS : Array (Option Value)} {v_MOST : Value} {v_BELL : Value} (X : K.In h) (G : h.Ns mainGlobals mg) (hfa : mg "law" = some (.ref fa))
    (ax_InkError : PySem.W.nsIn K mainGlobals "InkError" = some (some (.ref C_InkError)))
    (ax_NoMachine : PySem.W.nsIn K mainGlobals "NoMachine" = some (some (.ref C_NoMachine)))
    (xx_NoMachine : ExF K mg "NoMachine" C_NoMachine)
    (ax_NoKeys : PySem.W.nsIn K mainGlobals "NoKeys" = some (some (.ref C_NoKeys)))
    (xx_NoKeys : ExF K mg "NoKeys" C_NoKeys)
    (ax_NoKey : PySem.W.nsIn K mainGlobals "NoKey" = some (some (.ref C_NoKey)))
    (ax_NoPlace : PySem.W.nsIn K mainGlobals "NoPlace" = some (some (.ref C_NoPlace)))
    (ax_NoGoal : PySem.W.nsIn K mainGlobals "NoGoal" = some (some (.ref C_NoGoal)))
    (ax_NoStrikes : PySem.W.nsIn K mainGlobals "NoStrikes" = some (some (.ref C_NoStrikes)))
    (xx_NoStrikes : ExF K mg "NoStrikes" C_NoStrikes)
    (ax_NoText : PySem.W.nsIn K mainGlobals "NoText" = some (some (.ref C_NoText)))
    (ax_NoNumbers : PySem.W.nsIn K mainGlobals "NoNumbers" = some (some (.ref C_NoNumbers)))
    (ax_TooWide : PySem.W.nsIn K mainGlobals "TooWide" = some (some (.ref C_TooWide)))
    (ax_Nothing : PySem.W.nsIn K mainGlobals "Nothing" = some (some (.ref C_Nothing)))
    (ex_NoStrikes : PySem.W.exmOne K (.ref C_NoStrikes) (.ref C_InkError) = some true)
    (ec_NoStrikes : L2.ExcC K C_NoStrikes)
    (kt_NoStrikes_NoMachine : PySem.W.kitOne K (.ref C_NoStrikes) (.ref C_NoMachine) = some false)
    (kt_NoStrikes_NoKeys : PySem.W.kitOne K (.ref C_NoStrikes) (.ref C_NoKeys) = some false)
    (kt_NoStrikes_NoKey : PySem.W.kitOne K (.ref C_NoStrikes) (.ref C_NoKey) = some false)
    (kt_NoStrikes_NoPlace : PySem.W.kitOne K (.ref C_NoStrikes) (.ref C_NoPlace) = some false)
    (kt_NoStrikes_NoGoal : PySem.W.kitOne K (.ref C_NoStrikes) (.ref C_NoGoal) = some false)
    (kt_NoStrikes_NoStrikes : PySem.W.kitOne K (.ref C_NoStrikes) (.ref C_NoStrikes) = some true)
    (kt_NoStrikes_NoText : PySem.W.kitOne K (.ref C_NoStrikes) (.ref C_NoText) = some false)
    (kt_NoStrikes_NoNumbers : PySem.W.kitOne K (.ref C_NoStrikes) (.ref C_NoNumbers) = some false)
    (kt_NoStrikes_TooWide : PySem.W.kitOne K (.ref C_NoStrikes) (.ref C_TooWide) = some false)
    (kt_NoStrikes_Nothing : PySem.W.kitOne K (.ref C_NoStrikes) (.ref C_Nothing) = some false)
    (kv_NoStrikes : PySem.W.kitOne K (.ref C_NoStrikes) (.type "ValueError") = some true)
    (ax_Machine : PySem.W.nsIn K mainGlobals "Machine" = some (some (.ref C_Machine)))
    (pg_Machine : PySem.W.plainGet K C_Machine Str.empty = true)
    (hd_Machine : PySem.W.hasDictIn K C_Machine = true)
    (po_Machine : PySem.W.plainOver K C_Machine = true)
    (sa_Machine : PySem.W.findIn K (.ref C_Machine) "__setattr__" = some (some (.builtin "object.__setattr__")))
    (mk_Machine : PySem.W.makesIn K C_Machine = true)
    (kc_Machine : PySem.W.keepIn K (.ref C_Machine) = true)
    (na_Machine_caps : PySem.W.findIn K (.ref C_Machine) "caps" = some none)
    (na_Machine_colour : PySem.W.findIn K (.ref C_Machine) "colour" = some none)
    (na_Machine_dead : PySem.W.findIn K (.ref C_Machine) "dead" = some none)
    (na_Machine_down : PySem.W.findIn K (.ref C_Machine) "down" = some none)
    (na_Machine_end : PySem.W.findIn K (.ref C_Machine) "end" = some none)
    (na_Machine_high : PySem.W.findIn K (.ref C_Machine) "high" = some none)
    (na_Machine_is_free : PySem.W.findIn K (.ref C_Machine) "is_free" = some none)
    (na_Machine_low : PySem.W.findIn K (.ref C_Machine) "low" = some none)
    (na_Machine_many : PySem.W.findIn K (.ref C_Machine) "many" = some none)
    (na_Machine_marks : PySem.W.findIn K (.ref C_Machine) "marks" = some none)
    (na_Machine_place : PySem.W.findIn K (.ref C_Machine) "place" = some none)
    (na_Machine_rings : PySem.W.findIn K (.ref C_Machine) "rings" = some none)
    (na_Machine_row : PySem.W.findIn K (.ref C_Machine) "row" = some none)
    (na_Machine_tabs : PySem.W.findIn K (.ref C_Machine) "tabs" = some none)
    (a_is_whole : PySem.W.nsIn K mainGlobals "is_whole" = some (some (.ref f_is_whole)))
    (l_is_whole : K.lookup f_is_whole = some ⟨oc_is_whole, od_is_whole, .func (PySem.W.fnOf "is_whole" "is_whole" (defArgs s_is_whole) (defBody s_is_whole) (defScope s_is_whole) .none kV_is_whole dc_is_whole pm_is_whole an_is_whole cd_is_whole ct_is_whole), sl_is_whole⟩)
    (c_is_whole : PySem.W.codeIn K cd_is_whole "is_whole" = true)
    (k_is_whole : PySem.W.keepIn K (.ref f_is_whole) = true)
    (a_is_one_of : PySem.W.nsIn K mainGlobals "is_one_of" = some (some (.ref f_is_one_of)))
    (l_is_one_of : K.lookup f_is_one_of = some ⟨oc_is_one_of, od_is_one_of, .func (PySem.W.fnOf "is_one_of" "is_one_of" (defArgs s_is_one_of) (defBody s_is_one_of) (defScope s_is_one_of) .none kV_is_one_of dc_is_one_of pm_is_one_of an_is_one_of cd_is_one_of ct_is_one_of), sl_is_one_of⟩)
    (c_is_one_of : PySem.W.codeIn K cd_is_one_of "is_one_of" = true)
    (k_is_one_of : PySem.W.keepIn K (.ref f_is_one_of) = true)
    (a_is_rising : PySem.W.nsIn K mainGlobals "is_rising" = some (some (.ref f_is_rising)))
    (l_is_rising : K.lookup f_is_rising = some ⟨oc_is_rising, od_is_rising, .func (PySem.W.fnOf "is_rising" "is_rising" (defArgs s_is_rising) (defBody s_is_rising) (defScope s_is_rising) .none kV_is_rising dc_is_rising pm_is_rising an_is_rising cd_is_rising ct_is_rising), sl_is_rising⟩)
    (c_is_rising : PySem.W.codeIn K cd_is_rising "is_rising" = true)
    (k_is_rising : PySem.W.keepIn K (.ref f_is_rising) = true)
    (a_is_machine : PySem.W.nsIn K mainGlobals "is_machine" = some (some (.ref f_is_machine)))
    (l_is_machine : K.lookup f_is_machine = some ⟨oc_is_machine, od_is_machine, .func (PySem.W.fnOf "is_machine" "is_machine" (defArgs s_is_machine) (defBody s_is_machine) (defScope s_is_machine) .none kV_is_machine dc_is_machine pm_is_machine an_is_machine cd_is_machine ct_is_machine), sl_is_machine⟩)
    (c_is_machine : PySem.W.codeIn K cd_is_machine "is_machine" = true)
    (k_is_machine : PySem.W.keepIn K (.ref f_is_machine) = true)
    (a_need_machine : PySem.W.nsIn K mainGlobals "need_machine" = some (some (.ref f_need_machine)))
    (l_need_machine : K.lookup f_need_machine = some ⟨oc_need_machine, od_need_machine, .func (PySem.W.fnOf "need_machine" "need_machine" (defArgs s_need_machine) (defBody s_need_machine) (defScope s_need_machine) .none kV_need_machine dc_need_machine pm_need_machine an_need_machine cd_need_machine ct_need_machine), sl_need_machine⟩)
    (c_need_machine : PySem.W.codeIn K cd_need_machine "need_machine" = true)
    (k_need_machine : PySem.W.keepIn K (.ref f_need_machine) = true)
    (a_end_of : PySem.W.nsIn K mainGlobals "end_of" = some (some (.ref f_end_of)))
    (l_end_of : K.lookup f_end_of = some ⟨oc_end_of, od_end_of, .func (PySem.W.fnOf "end_of" "end_of" (defArgs s_end_of) (defBody s_end_of) (defScope s_end_of) .none kV_end_of dc_end_of pm_end_of an_end_of cd_end_of ct_end_of), sl_end_of⟩)
    (c_end_of : PySem.W.codeIn K cd_end_of "end_of" = true)
    (k_end_of : PySem.W.keepIn K (.ref f_end_of) = true)
    (a_is_key : PySem.W.nsIn K mainGlobals "is_key" = some (some (.ref f_is_key)))
    (l_is_key : K.lookup f_is_key = some ⟨oc_is_key, od_is_key, .func (PySem.W.fnOf "is_key" "is_key" (defArgs s_is_key) (defBody s_is_key) (defScope s_is_key) .none kV_is_key dc_is_key pm_is_key an_is_key cd_is_key ct_is_key), sl_is_key⟩)
    (c_is_key : PySem.W.codeIn K cd_is_key "is_key" = true)
    (k_is_key : PySem.W.keepIn K (.ref f_is_key) = true)
    (a_need_keys : PySem.W.nsIn K mainGlobals "need_keys" = some (some (.ref f_need_keys)))
    (l_need_keys : K.lookup f_need_keys = some ⟨oc_need_keys, od_need_keys, .func (PySem.W.fnOf "need_keys" "need_keys" (defArgs s_need_keys) (defBody s_need_keys) (defScope s_need_keys) .none kV_need_keys dc_need_keys pm_need_keys an_need_keys cd_need_keys ct_need_keys), sl_need_keys⟩)
    (c_need_keys : PySem.W.codeIn K cd_need_keys "need_keys" = true)
    (k_need_keys : PySem.W.keepIn K (.ref f_need_keys) = true)
    (a_struck_as : PySem.W.nsIn K mainGlobals "struck_as" = some (some (.ref f_struck_as)))
    (l_struck_as : K.lookup f_struck_as = some ⟨oc_struck_as, od_struck_as, .func (PySem.W.fnOf "struck_as" "struck_as" (defArgs s_struck_as) (defBody s_struck_as) (defScope s_struck_as) .none kV_struck_as dc_struck_as pm_struck_as an_struck_as cd_struck_as ct_struck_as), sl_struck_as⟩)
    (c_struck_as : PySem.W.codeIn K cd_struck_as "struck_as" = true)
    (k_struck_as : PySem.W.keepIn K (.ref f_struck_as) = true)
    (a_key_for : PySem.W.nsIn K mainGlobals "key_for" = some (some (.ref f_key_for)))
    (l_key_for : K.lookup f_key_for = some ⟨oc_key_for, od_key_for, .func (PySem.W.fnOf "key_for" "key_for" (defArgs s_key_for) (defBody s_key_for) (defScope s_key_for) .none kV_key_for dc_key_for pm_key_for an_key_for cd_key_for ct_key_for), sl_key_for⟩)
    (c_key_for : PySem.W.codeIn K cd_key_for "key_for" = true)
    (k_key_for : PySem.W.keepIn K (.ref f_key_for) = true)
    (a_is_strike : PySem.W.nsIn K mainGlobals "is_strike" = some (some (.ref f_is_strike)))
    (l_is_strike : K.lookup f_is_strike = some ⟨oc_is_strike, od_is_strike, .func (PySem.W.fnOf "is_strike" "is_strike" (defArgs s_is_strike) (defBody s_is_strike) (defScope s_is_strike) .none kV_is_strike dc_is_strike pm_is_strike an_is_strike cd_is_strike ct_is_strike), sl_is_strike⟩)
    (c_is_strike : PySem.W.codeIn K cd_is_strike "is_strike" = true)
    (k_is_strike : PySem.W.keepIn K (.ref f_is_strike) = true)
    (a_led : PySem.W.nsIn K mainGlobals "led" = some (some (.ref f_led)))
    (l_led : K.lookup f_led = some ⟨oc_led, od_led, .func (PySem.W.fnOf "led" "led" (defArgs s_led) (defBody s_led) (defScope s_led) .none kV_led dc_led pm_led an_led cd_led ct_led), sl_led⟩)
    (c_led : PySem.W.codeIn K cd_led "led" = true)
    (k_led : PySem.W.keepIn K (.ref f_led) = true)
    (a_home_row : PySem.W.nsIn K mainGlobals "home_row" = some (some (.ref f_home_row)))
    (l_home_row : K.lookup f_home_row = some ⟨oc_home_row, od_home_row, .func (PySem.W.fnOf "home_row" "home_row" (defArgs s_home_row) (defBody s_home_row) (defScope s_home_row) .none kV_home_row dc_home_row pm_home_row an_home_row cd_home_row ct_home_row), sl_home_row⟩)
    (c_home_row : PySem.W.codeIn K cd_home_row "home_row" = true)
    (k_home_row : PySem.W.keepIn K (.ref f_home_row) = true)
    (a_home : PySem.W.nsIn K mainGlobals "home" = some (some (.ref f_home)))
    (l_home : K.lookup f_home = some ⟨oc_home, od_home, .func (PySem.W.fnOf "home" "home" (defArgs s_home) (defBody s_home) (defScope s_home) .none kV_home dc_home pm_home an_home cd_home ct_home), sl_home⟩)
    (c_home : PySem.W.codeIn K cd_home "home" = true)
    (k_home : PySem.W.keepIn K (.ref f_home) = true)
    (a_keys_for : PySem.W.nsIn K mainGlobals "keys_for" = some (some (.ref f_keys_for)))
    (l_keys_for : K.lookup f_keys_for = some ⟨oc_keys_for, od_keys_for, .func (PySem.W.fnOf "keys_for" "keys_for" (defArgs s_keys_for) (defBody s_keys_for) (defScope s_keys_for) .none kV_keys_for dc_keys_for pm_keys_for an_keys_for cd_keys_for ct_keys_for), sl_keys_for⟩)
    (c_keys_for : PySem.W.codeIn K cd_keys_for "keys_for" = true)
    (k_keys_for : PySem.W.keepIn K (.ref f_keys_for) = true)
    (a_keys_of : PySem.W.nsIn K mainGlobals "keys_of" = some (some (.ref f_keys_of)))
    (l_keys_of : K.lookup f_keys_of = some ⟨oc_keys_of, od_keys_of, .func (PySem.W.fnOf "keys_of" "keys_of" (defArgs s_keys_of) (defBody s_keys_of) (defScope s_keys_of) .none kV_keys_of dc_keys_of pm_keys_of an_keys_of cd_keys_of ct_keys_of), sl_keys_of⟩)
    (c_keys_of : PySem.W.codeIn K cd_keys_of "keys_of" = true)
    (k_keys_of : PySem.W.keepIn K (.ref f_keys_of) = true)
    (a_Machine___init__ : PySem.W.findIn K (.ref C_Machine) "__init__" = some (some (.ref f_Machine___init__)))
    (ty_Machine___init__ : PySem.W.isFn K (.ref f_Machine___init__) = true)
    (l_Machine___init__ : K.lookup f_Machine___init__ = some ⟨oc_Machine___init__, od_Machine___init__, .func (PySem.W.fnOf "__init__" "Machine.__init__" (defArgs s_Machine___init__) (defBody s_Machine___init__) (defScope s_Machine___init__) .none kV_Machine___init__ dc_Machine___init__ pm_Machine___init__ an_Machine___init__ cd_Machine___init__ ct_Machine___init__), sl_Machine___init__⟩)
    (c_Machine___init__ : PySem.W.codeIn K cd_Machine___init__ "Machine.__init__" = true)
    (k_Machine___init__ : PySem.W.keepIn K (.ref f_Machine___init__) = true)
    (a_Machine_is_locked : PySem.W.findIn K (.ref C_Machine) "is_locked" = some (some (.ref f_Machine_is_locked)))
    (ty_Machine_is_locked : PySem.W.isFn K (.ref f_Machine_is_locked) = true)
    (l_Machine_is_locked : K.lookup f_Machine_is_locked = some ⟨oc_Machine_is_locked, od_Machine_is_locked, .func (PySem.W.fnOf "is_locked" "Machine.is_locked" (defArgs s_Machine_is_locked) (defBody s_Machine_is_locked) (defScope s_Machine_is_locked) .none kV_Machine_is_locked dc_Machine_is_locked pm_Machine_is_locked an_Machine_is_locked cd_Machine_is_locked ct_Machine_is_locked), sl_Machine_is_locked⟩)
    (c_Machine_is_locked : PySem.W.codeIn K cd_Machine_is_locked "Machine.is_locked" = true)
    (k_Machine_is_locked : PySem.W.keepIn K (.ref f_Machine_is_locked) = true)
    (a_Machine_go_on : PySem.W.findIn K (.ref C_Machine) "go_on" = some (some (.ref f_Machine_go_on)))
    (ty_Machine_go_on : PySem.W.isFn K (.ref f_Machine_go_on) = true)
    (l_Machine_go_on : K.lookup f_Machine_go_on = some ⟨oc_Machine_go_on, od_Machine_go_on, .func (PySem.W.fnOf "go_on" "Machine.go_on" (defArgs s_Machine_go_on) (defBody s_Machine_go_on) (defScope s_Machine_go_on) .none kV_Machine_go_on dc_Machine_go_on pm_Machine_go_on an_Machine_go_on cd_Machine_go_on ct_Machine_go_on), sl_Machine_go_on⟩)
    (c_Machine_go_on : PySem.W.codeIn K cd_Machine_go_on "Machine.go_on" = true)
    (k_Machine_go_on : PySem.W.keepIn K (.ref f_Machine_go_on) = true)
    (a_Machine_strike : PySem.W.findIn K (.ref C_Machine) "strike" = some (some (.ref f_Machine_strike)))
    (ty_Machine_strike : PySem.W.isFn K (.ref f_Machine_strike) = true)
    (l_Machine_strike : K.lookup f_Machine_strike = some ⟨oc_Machine_strike, od_Machine_strike, .func (PySem.W.fnOf "strike" "Machine.strike" (defArgs s_Machine_strike) (defBody s_Machine_strike) (defScope s_Machine_strike) .none kV_Machine_strike dc_Machine_strike pm_Machine_strike an_Machine_strike cd_Machine_strike ct_Machine_strike), sl_Machine_strike⟩)
    (c_Machine_strike : PySem.W.codeIn K cd_Machine_strike "Machine.strike" = true)
    (k_Machine_strike : PySem.W.keepIn K (.ref f_Machine_strike) = true)
    (a_Machine_lift : PySem.W.findIn K (.ref C_Machine) "lift" = some (some (.ref f_Machine_lift)))
    (ty_Machine_lift : PySem.W.isFn K (.ref f_Machine_lift) = true)
    (l_Machine_lift : K.lookup f_Machine_lift = some ⟨oc_Machine_lift, od_Machine_lift, .func (PySem.W.fnOf "lift" "Machine.lift" (defArgs s_Machine_lift) (defBody s_Machine_lift) (defScope s_Machine_lift) .none kV_Machine_lift dc_Machine_lift pm_Machine_lift an_Machine_lift cd_Machine_lift ct_Machine_lift), sl_Machine_lift⟩)
    (c_Machine_lift : PySem.W.codeIn K cd_Machine_lift "Machine.lift" = true)
    (k_Machine_lift : PySem.W.keepIn K (.ref f_Machine_lift) = true)
    (a_Machine_move : PySem.W.findIn K (.ref C_Machine) "move" = some (some (.ref f_Machine_move)))
    (ty_Machine_move : PySem.W.isFn K (.ref f_Machine_move) = true)
    (l_Machine_move : K.lookup f_Machine_move = some ⟨oc_Machine_move, od_Machine_move, .func (PySem.W.fnOf "move" "Machine.move" (defArgs s_Machine_move) (defBody s_Machine_move) (defScope s_Machine_move) .none kV_Machine_move dc_Machine_move pm_Machine_move an_Machine_move cd_Machine_move ct_Machine_move), sl_Machine_move⟩)
    (c_Machine_move : PySem.W.codeIn K cd_Machine_move "Machine.move" = true)
    (k_Machine_move : PySem.W.keepIn K (.ref f_Machine_move) = true)
    (a_Machine_roll : PySem.W.findIn K (.ref C_Machine) "roll" = some (some (.ref f_Machine_roll)))
    (ty_Machine_roll : PySem.W.isFn K (.ref f_Machine_roll) = true)
    (l_Machine_roll : K.lookup f_Machine_roll = some ⟨oc_Machine_roll, od_Machine_roll, .func (PySem.W.fnOf "roll" "Machine.roll" (defArgs s_Machine_roll) (defBody s_Machine_roll) (defScope s_Machine_roll) .none kV_Machine_roll dc_Machine_roll pm_Machine_roll an_Machine_roll cd_Machine_roll ct_Machine_roll), sl_Machine_roll⟩)
    (c_Machine_roll : PySem.W.codeIn K cd_Machine_roll "Machine.roll" = true)
    (k_Machine_roll : PySem.W.keepIn K (.ref f_Machine_roll) = true)
    (a_Machine_set_up : PySem.W.findIn K (.ref C_Machine) "set_up" = some (some (.ref f_Machine_set_up)))
    (ty_Machine_set_up : PySem.W.isFn K (.ref f_Machine_set_up) = true)
    (l_Machine_set_up : K.lookup f_Machine_set_up = some ⟨oc_Machine_set_up, od_Machine_set_up, .func (PySem.W.fnOf "set_up" "Machine.set_up" (defArgs s_Machine_set_up) (defBody s_Machine_set_up) (defScope s_Machine_set_up) .none kV_Machine_set_up dc_Machine_set_up pm_Machine_set_up an_Machine_set_up cd_Machine_set_up ct_Machine_set_up), sl_Machine_set_up⟩)
    (c_Machine_set_up : PySem.W.codeIn K cd_Machine_set_up "Machine.set_up" = true)
    (k_Machine_set_up : PySem.W.keepIn K (.ref f_Machine_set_up) = true)
    (a_Machine_press : PySem.W.findIn K (.ref C_Machine) "press" = some (some (.ref f_Machine_press)))
    (ty_Machine_press : PySem.W.isFn K (.ref f_Machine_press) = true)
    (l_Machine_press : K.lookup f_Machine_press = some ⟨oc_Machine_press, od_Machine_press, .func (PySem.W.fnOf "press" "Machine.press" (defArgs s_Machine_press) (defBody s_Machine_press) (defScope s_Machine_press) .none kV_Machine_press dc_Machine_press pm_Machine_press an_Machine_press cd_Machine_press ct_Machine_press), sl_Machine_press⟩)
    (c_Machine_press : PySem.W.codeIn K cd_Machine_press "Machine.press" = true)
    (k_Machine_press : PySem.W.keepIn K (.ref f_Machine_press) = true)
    (a_Machine_stand : PySem.W.findIn K (.ref C_Machine) "stand" = some (some (.ref f_Machine_stand)))
    (ty_Machine_stand : PySem.W.isFn K (.ref f_Machine_stand) = true)
    (l_Machine_stand : K.lookup f_Machine_stand = some ⟨oc_Machine_stand, od_Machine_stand, .func (PySem.W.fnOf "stand" "Machine.stand" (defArgs s_Machine_stand) (defBody s_Machine_stand) (defScope s_Machine_stand) .none kV_Machine_stand dc_Machine_stand pm_Machine_stand an_Machine_stand cd_Machine_stand ct_Machine_stand), sl_Machine_stand⟩)
    (c_Machine_stand : PySem.W.codeIn K cd_Machine_stand "Machine.stand" = true)
    (k_Machine_stand : PySem.W.keepIn K (.ref f_Machine_stand) = true)
    (a_worked : PySem.W.nsIn K mainGlobals "worked" = some (some (.ref f_worked)))
    (l_worked : K.lookup f_worked = some ⟨oc_worked, od_worked, .func (PySem.W.fnOf "worked" "worked" (defArgs s_worked) (defBody s_worked) (defScope s_worked) .none kV_worked dc_worked pm_worked an_worked cd_worked ct_worked), sl_worked⟩)
    (c_worked : PySem.W.codeIn K cd_worked "worked" = true)
    (k_worked : PySem.W.keepIn K (.ref f_worked) = true)
    (a_need_both : PySem.W.nsIn K mainGlobals "need_both" = some (some (.ref f_need_both)))
    (l_need_both : K.lookup f_need_both = some ⟨oc_need_both, od_need_both, .func (PySem.W.fnOf "need_both" "need_both" (defArgs s_need_both) (defBody s_need_both) (defScope s_need_both) .none kV_need_both dc_need_both pm_need_both an_need_both cd_need_both ct_need_both), sl_need_both⟩)
    (c_need_both : PySem.W.codeIn K cd_need_both "need_both" = true)
    (k_need_both : PySem.W.keepIn K (.ref f_need_both) = true)
    (a_marks_of : PySem.W.nsIn K mainGlobals "marks_of" = some (some (.ref f_marks_of)))
    (l_marks_of : K.lookup f_marks_of = some ⟨oc_marks_of, od_marks_of, .func (PySem.W.fnOf "marks_of" "marks_of" (defArgs s_marks_of) (defBody s_marks_of) (defScope s_marks_of) .none kV_marks_of dc_marks_of pm_marks_of an_marks_of cd_marks_of ct_marks_of), sl_marks_of⟩)
    (c_marks_of : PySem.W.codeIn K cd_marks_of "marks_of" = true)
    (k_marks_of : PySem.W.keepIn K (.ref f_marks_of) = true)
    (a_strikes : PySem.W.nsIn K mainGlobals "strikes" = some (some (.ref f_strikes)))
    (l_strikes : K.lookup f_strikes = some ⟨oc_strikes, od_strikes, .func (PySem.W.fnOf "strikes" "strikes" (defArgs s_strikes) (defBody s_strikes) (defScope s_strikes) .none kV_strikes dc_strikes pm_strikes an_strikes cd_strikes ct_strikes), sl_strikes⟩)
    (c_strikes : PySem.W.codeIn K cd_strikes "strikes" = true)
    (k_strikes : PySem.W.keepIn K (.ref f_strikes) = true)
    (a__law_cell_at : PySem.W.nsIn K mainGlobals "_law_cell_at" = some (some (.ref f__law_cell_at)))
    (l__law_cell_at : K.lookup f__law_cell_at = some ⟨oc__law_cell_at, od__law_cell_at, .func (PySem.W.fnOf "_law_cell_at" "_law_cell_at" (defArgs s__law_cell_at) (defBody s__law_cell_at) (defScope s__law_cell_at) .none kV__law_cell_at dc__law_cell_at pm__law_cell_at an__law_cell_at cd__law_cell_at ct__law_cell_at), sl__law_cell_at⟩)
    (c__law_cell_at : PySem.W.codeIn K cd__law_cell_at "_law_cell_at" = true)
    (k__law_cell_at : PySem.W.keepIn K (.ref f__law_cell_at) = true)
    (a__law_mixed : PySem.W.nsIn K mainGlobals "_law_mixed" = some (some (.ref f__law_mixed)))
    (l__law_mixed : K.lookup f__law_mixed = some ⟨oc__law_mixed, od__law_mixed, .func (PySem.W.fnOf "_law_mixed" "_law_mixed" (defArgs s__law_mixed) (defBody s__law_mixed) (defScope s__law_mixed) .none kV__law_mixed dc__law_mixed pm__law_mixed an__law_mixed cd__law_mixed ct__law_mixed), sl__law_mixed⟩)
    (c__law_mixed : PySem.W.codeIn K cd__law_mixed "_law_mixed" = true)
    (k__law_mixed : PySem.W.keepIn K (.ref f__law_mixed) = true)
    (a__law_draw : PySem.W.nsIn K mainGlobals "_law_draw" = some (some (.ref f__law_draw)))
    (l__law_draw : K.lookup f__law_draw = some ⟨oc__law_draw, od__law_draw, .func (PySem.W.fnOf "_law_draw" "_law_draw" (defArgs s__law_draw) (defBody s__law_draw) (defScope s__law_draw) .none kV__law_draw dc__law_draw pm__law_draw an__law_draw cd__law_draw ct__law_draw), sl__law_draw⟩)
    (c__law_draw : PySem.W.codeIn K cd__law_draw "_law_draw" = true)
    (k__law_draw : PySem.W.keepIn K (.ref f__law_draw) = true)
    (a__law_pick : PySem.W.nsIn K mainGlobals "_law_pick" = some (some (.ref f__law_pick)))
    (l__law_pick : K.lookup f__law_pick = some ⟨oc__law_pick, od__law_pick, .func (PySem.W.fnOf "_law_pick" "_law_pick" (defArgs s__law_pick) (defBody s__law_pick) (defScope s__law_pick) .none kV__law_pick dc__law_pick pm__law_pick an__law_pick cd__law_pick ct__law_pick), sl__law_pick⟩)
    (c__law_pick : PySem.W.codeIn K cd__law_pick "_law_pick" = true)
    (k__law_pick : PySem.W.keepIn K (.ref f__law_pick) = true)
    (a__law_machine : PySem.W.nsIn K mainGlobals "_law_machine" = some (some (.ref f__law_machine)))
    (l__law_machine : K.lookup f__law_machine = some ⟨oc__law_machine, od__law_machine, .func (PySem.W.fnOf "_law_machine" "_law_machine" (defArgs s__law_machine) (defBody s__law_machine) (defScope s__law_machine) .none kV__law_machine dc__law_machine pm__law_machine an__law_machine cd__law_machine ct__law_machine), sl__law_machine⟩)
    (c__law_machine : PySem.W.codeIn K cd__law_machine "_law_machine" = true)
    (k__law_machine : PySem.W.keepIn K (.ref f__law_machine) = true)
    (a__law_new : PySem.W.nsIn K mainGlobals "_law_new" = some (some (.ref f__law_new)))
    (l__law_new : K.lookup f__law_new = some ⟨oc__law_new, od__law_new, .func (PySem.W.fnOf "_law_new" "_law_new" (defArgs s__law_new) (defBody s__law_new) (defScope s__law_new) .none kV__law_new dc__law_new pm__law_new an__law_new cd__law_new ct__law_new), sl__law_new⟩)
    (c__law_new : PySem.W.codeIn K cd__law_new "_law_new" = true)
    (k__law_new : PySem.W.keepIn K (.ref f__law_new) = true)
    (a__law_shut : PySem.W.nsIn K mainGlobals "_law_shut" = some (some (.ref f__law_shut)))
    (l__law_shut : K.lookup f__law_shut = some ⟨oc__law_shut, od__law_shut, .func (PySem.W.fnOf "_law_shut" "_law_shut" (defArgs s__law_shut) (defBody s__law_shut) (defScope s__law_shut) .none kV__law_shut dc__law_shut pm__law_shut an__law_shut cd__law_shut ct__law_shut), sl__law_shut⟩)
    (c__law_shut : PySem.W.codeIn K cd__law_shut "_law_shut" = true)
    (k__law_shut : PySem.W.keepIn K (.ref f__law_shut) = true)
    (a__law_go : PySem.W.nsIn K mainGlobals "_law_go" = some (some (.ref f__law_go)))
    (l__law_go : K.lookup f__law_go = some ⟨oc__law_go, od__law_go, .func (PySem.W.fnOf "_law_go" "_law_go" (defArgs s__law_go) (defBody s__law_go) (defScope s__law_go) .none kV__law_go dc__law_go pm__law_go an__law_go cd__law_go ct__law_go), sl__law_go⟩)
    (c__law_go : PySem.W.codeIn K cd__law_go "_law_go" = true)
    (k__law_go : PySem.W.keepIn K (.ref f__law_go) = true)
    (a__law_as : PySem.W.nsIn K mainGlobals "_law_as" = some (some (.ref f__law_as)))
    (l__law_as : K.lookup f__law_as = some ⟨oc__law_as, od__law_as, .func (PySem.W.fnOf "_law_as" "_law_as" (defArgs s__law_as) (defBody s__law_as) (defScope s__law_as) .none kV__law_as dc__law_as pm__law_as an__law_as cd__law_as ct__law_as), sl__law_as⟩)
    (c__law_as : PySem.W.codeIn K cd__law_as "_law_as" = true)
    (k__law_as : PySem.W.keepIn K (.ref f__law_as) = true)
    (a__law_ink : PySem.W.nsIn K mainGlobals "_law_ink" = some (some (.ref f__law_ink)))
    (l__law_ink : K.lookup f__law_ink = some ⟨oc__law_ink, od__law_ink, .func (PySem.W.fnOf "_law_ink" "_law_ink" (defArgs s__law_ink) (defBody s__law_ink) (defScope s__law_ink) .none kV__law_ink dc__law_ink pm__law_ink an__law_ink cd__law_ink ct__law_ink), sl__law_ink⟩)
    (c__law_ink : PySem.W.codeIn K cd__law_ink "_law_ink" = true)
    (k__law_ink : PySem.W.keepIn K (.ref f__law_ink) = true)
    (a__law_turn : PySem.W.nsIn K mainGlobals "_law_turn" = some (some (.ref f__law_turn)))
    (l__law_turn : K.lookup f__law_turn = some ⟨oc__law_turn, od__law_turn, .func (PySem.W.fnOf "_law_turn" "_law_turn" (defArgs s__law_turn) (defBody s__law_turn) (defScope s__law_turn) .none kV__law_turn dc__law_turn pm__law_turn an__law_turn cd__law_turn ct__law_turn), sl__law_turn⟩)
    (c__law_turn : PySem.W.codeIn K cd__law_turn "_law_turn" = true)
    (k__law_turn : PySem.W.keepIn K (.ref f__law_turn) = true)
    (a__law_step : PySem.W.nsIn K mainGlobals "_law_step" = some (some (.ref f__law_step)))
    (l__law_step : K.lookup f__law_step = some ⟨oc__law_step, od__law_step, .func (PySem.W.fnOf "_law_step" "_law_step" (defArgs s__law_step) (defBody s__law_step) (defScope s__law_step) .none kV__law_step dc__law_step pm__law_step an__law_step cd__law_step ct__law_step), sl__law_step⟩)
    (c__law_step : PySem.W.codeIn K cd__law_step "_law_step" = true)
    (k__law_step : PySem.W.keepIn K (.ref f__law_step) = true)
    (a__law_press : PySem.W.nsIn K mainGlobals "_law_press" = some (some (.ref f__law_press)))
    (l__law_press : K.lookup f__law_press = some ⟨oc__law_press, od__law_press, .func (PySem.W.fnOf "_law_press" "_law_press" (defArgs s__law_press) (defBody s__law_press) (defScope s__law_press) .none kV__law_press dc__law_press pm__law_press an__law_press cd__law_press ct__law_press), sl__law_press⟩)
    (c__law_press : PySem.W.codeIn K cd__law_press "_law_press" = true)
    (k__law_press : PySem.W.keepIn K (.ref f__law_press) = true)
    (a__law_worked : PySem.W.nsIn K mainGlobals "_law_worked" = some (some (.ref f__law_worked)))
    (l__law_worked : K.lookup f__law_worked = some ⟨oc__law_worked, od__law_worked, .func (PySem.W.fnOf "_law_worked" "_law_worked" (defArgs s__law_worked) (defBody s__law_worked) (defScope s__law_worked) .none kV__law_worked dc__law_worked pm__law_worked an__law_worked cd__law_worked ct__law_worked), sl__law_worked⟩)
    (c__law_worked : PySem.W.codeIn K cd__law_worked "_law_worked" = true)
    (k__law_worked : PySem.W.keepIn K (.ref f__law_worked) = true)
    (a__law_marks : PySem.W.nsIn K mainGlobals "_law_marks" = some (some (.ref f__law_marks)))
    (l__law_marks : K.lookup f__law_marks = some ⟨oc__law_marks, od__law_marks, .func (PySem.W.fnOf "_law_marks" "_law_marks" (defArgs s__law_marks) (defBody s__law_marks) (defScope s__law_marks) .none kV__law_marks dc__law_marks pm__law_marks an__law_marks cd__law_marks ct__law_marks), sl__law_marks⟩)
    (c__law_marks : PySem.W.codeIn K cd__law_marks "_law_marks" = true)
    (k__law_marks : PySem.W.keepIn K (.ref f__law_marks) = true)
    (a__law_which : PySem.W.nsIn K mainGlobals "_law_which" = some (some (.ref f__law_which)))
    (l__law_which : K.lookup f__law_which = some ⟨oc__law_which, od__law_which, .func (PySem.W.fnOf "_law_which" "_law_which" (defArgs s__law_which) (defBody s__law_which) (defScope s__law_which) .none kV__law_which dc__law_which pm__law_which an__law_which cd__law_which ct__law_which), sl__law_which⟩)
    (c__law_which : PySem.W.codeIn K cd__law_which "_law_which" = true)
    (k__law_which : PySem.W.keepIn K (.ref f__law_which) = true)
    (a__law_ask : PySem.W.nsIn K mainGlobals "_law_ask" = some (some (.ref f__law_ask)))
    (l__law_ask : K.lookup f__law_ask = some ⟨oc__law_ask, od__law_ask, .func (PySem.W.fnOf "_law_ask" "_law_ask" (defArgs s__law_ask) (defBody s__law_ask) (defScope s__law_ask) .none kV__law_ask dc__law_ask pm__law_ask an__law_ask cd__law_ask ct__law_ask), sl__law_ask⟩)
    (c__law_ask : PySem.W.codeIn K cd__law_ask "_law_ask" = true)
    (k__law_ask : PySem.W.keepIn K (.ref f__law_ask) = true)
    (a_law : PySem.W.nsIn K mainGlobals "law" = some (some (.ref f_law)))
    (l_law : K.lookup f_law = some ⟨oc_law, od_law, .func (PySem.W.fnOf "law" "law" (defArgs s_law) (defBody s_law) (defScope s_law) .none kV_law dc_law pm_law an_law cd_law ct_law), sl_law⟩)
    (c_law : PySem.W.codeIn K cd_law "law" = true)
    (k_law : PySem.W.keepIn K (.ref f_law) = true)
    (g_LETTERS : PySem.W.nsIn K mainGlobals "LETTERS" = some (some v_LETTERS))
    (ge_LETTERS : ∃ t, v_LETTERS = .str G_LETTERS t)
    (g_GREAT : PySem.W.nsIn K mainGlobals "GREAT" = some (some v_GREAT))
    (ge_GREAT : ∃ t, v_GREAT = .str G_GREAT t)
    (g_DEAD : PySem.W.nsIn K mainGlobals "DEAD" = some (some v_DEAD))
    (ge_DEAD : ∃ t, v_DEAD = .str G_DEAD t)
    (g_SIGNS : PySem.W.nsIn K mainGlobals "SIGNS" = some (some v_SIGNS))
    (ge_SIGNS : ∃ t, v_SIGNS = .str G_SIGNS t)
    (g_MOVES : PySem.W.nsIn K mainGlobals "MOVES" = some (some (.ref v_MOVES)))
    (gl_MOVES : K.lookup v_MOVES = some ⟨.type "tuple", od_MOVES, .seq its_MOVES n_MOVES, sl_MOVES⟩)
    (gv_MOVES : Vals (["blank", "half", "back", "tab", "return", "up", "down"].map fun s => V.str (PySem.Str.ofString s)) its_MOVES.toList)
    (g_TURNS : PySem.W.nsIn K mainGlobals "TURNS" = some (some (.ref v_TURNS)))
    (gl_TURNS : K.lookup v_TURNS = some ⟨.type "tuple", od_TURNS, .seq its_TURNS n_TURNS, sl_TURNS⟩)
    (gv_TURNS : Vals (["left", "right", "set", "clear", "all", "free", "ribbon", "caps"].map fun s => V.str (PySem.Str.ofString s)) its_TURNS.toList)
    (g_LEAST : PySem.W.nsIn K mainGlobals "LEAST" = some (some v_LEAST))
    (ge_LEAST : ∃ t, v_LEAST = .int 8 t)
    (g_WIDEST : PySem.W.nsIn K mainGlobals "WIDEST" = some (some v_WIDEST))
    (ge_WIDEST : ∃ t, v_WIDEST = .int 40 t)
    (g_KEYS : PySem.W.nsIn K mainGlobals "KEYS" = some (some v_KEYS))
    (ge_KEYS : ∃ t, v_KEYS = .int 4000 t)
    (g_ROWS : PySem.W.nsIn K mainGlobals "ROWS" = some (some v_ROWS))
    (ge_ROWS : ∃ t, v_ROWS = .int 60 t)
    (g_COLOURS : PySem.W.nsIn K mainGlobals "COLOURS" = some (some (.ref v_COLOURS)))
    (gl_COLOURS : K.lookup v_COLOURS = some ⟨.type "tuple", od_COLOURS, .seq its_COLOURS n_COLOURS, sl_COLOURS⟩)
    (gv_COLOURS : Vals (["black", "red"].map fun s => V.str (PySem.Str.ofString s)) its_COLOURS.toList)
    (g_MOST : PySem.W.nsIn K mainGlobals "MOST" = some (some v_MOST))
    (ge_MOST : ∃ t, v_MOST = .int 60 t)
    (g_BELL : PySem.W.nsIn K mainGlobals "BELL" = some (some v_BELL))
    (ge_BELL : ∃ t, v_BELL = .int 10 t)
    (z_ValueError : PySem.W.nsIn K mainGlobals "ValueError" = some none)
    (z_all : PySem.W.nsIn K mainGlobals "all" = some none)
    (z_bool : PySem.W.nsIn K mainGlobals "bool" = some none)
    (z_enumerate : PySem.W.nsIn K mainGlobals "enumerate" = some none)
    (z_int : PySem.W.nsIn K mainGlobals "int" = some none)
    (z_isinstance : PySem.W.nsIn K mainGlobals "isinstance" = some none)
    (z_len : PySem.W.nsIn K mainGlobals "len" = some none)
    (z_list : PySem.W.nsIn K mainGlobals "list" = some none)
    (z_max : PySem.W.nsIn K mainGlobals "max" = some none)
    (z_min : PySem.W.nsIn K mainGlobals "min" = some none)
    (z_range : PySem.W.nsIn K mainGlobals "range" = some none)
    (z_set : PySem.W.nsIn K mainGlobals "set" = some none)
    (z_sorted : PySem.W.nsIn K mainGlobals "sorted" = some none)
    (z_str : PySem.W.nsIn K mainGlobals "str" = some none)
    (z_tuple : PySem.W.nsIn K mainGlobals "tuple" = some none)
    (z_zip : PySem.W.nsIn K mainGlobals "zip" = some none)
    (nd : ([C_NoMachine, C_NoKeys, C_NoKey, C_NoPlace, C_NoGoal, C_NoStrikes, C_NoText, C_NoNumbers, C_TooWide, C_Nothing] : List Addr).Nodup) :
    ∃ fd : FuncData, (∀ (s : Shared) (v : Value), BindsTo s fd ⟨[v], []⟩ [("script", v)]) ∧ ∀ base : Heap, K.In base → base.Ns mainGlobals mg → FnOk P w K mg base (L2N.CX P w) 7 fa fd ["script"] (spT K) := by
  have e : f_law = fa := by have e := hfa.symm.trans (PySem.W.mg_of X G a_law); cases e; rfl
  subst e
  have F_is_whole := fun_mk (st := s_is_whole) l_is_whole c_is_whole k_is_whole
  have F_is_one_of := fun_mk (st := s_is_one_of) l_is_one_of c_is_one_of k_is_one_of
  have F_is_rising := fun_mk (st := s_is_rising) l_is_rising c_is_rising k_is_rising
  have F_is_machine := fun_mk (st := s_is_machine) l_is_machine c_is_machine k_is_machine
  have F_need_machine := fun_mk (st := s_need_machine) l_need_machine c_need_machine k_need_machine
  have F_end_of := fun_mk (st := s_end_of) l_end_of c_end_of k_end_of
  have F_is_key := fun_mk (st := s_is_key) l_is_key c_is_key k_is_key
  have F_need_keys := fun_mk (st := s_need_keys) l_need_keys c_need_keys k_need_keys
  have F_struck_as := fun_mk (st := s_struck_as) l_struck_as c_struck_as k_struck_as
  have F_key_for := fun_mk (st := s_key_for) l_key_for c_key_for k_key_for
  have F_is_strike := fun_mk (st := s_is_strike) l_is_strike c_is_strike k_is_strike
  have F_led := fun_mk (st := s_led) l_led c_led k_led
  have F_home_row := fun_mk (st := s_home_row) l_home_row c_home_row k_home_row
  have F_home := fun_mk (st := s_home) l_home c_home k_home
  have F_keys_for := fun_mk (st := s_keys_for) l_keys_for c_keys_for k_keys_for
  have F_keys_of := fun_mk (st := s_keys_of) l_keys_of c_keys_of k_keys_of
  have F_Machine___init__ := fun_mk (st := s_Machine___init__) l_Machine___init__ c_Machine___init__ k_Machine___init__
  have F_Machine_is_locked := fun_mk (st := s_Machine_is_locked) l_Machine_is_locked c_Machine_is_locked k_Machine_is_locked
  have F_Machine_go_on := fun_mk (st := s_Machine_go_on) l_Machine_go_on c_Machine_go_on k_Machine_go_on
  have F_Machine_strike := fun_mk (st := s_Machine_strike) l_Machine_strike c_Machine_strike k_Machine_strike
  have F_Machine_lift := fun_mk (st := s_Machine_lift) l_Machine_lift c_Machine_lift k_Machine_lift
  have F_Machine_move := fun_mk (st := s_Machine_move) l_Machine_move c_Machine_move k_Machine_move
  have F_Machine_roll := fun_mk (st := s_Machine_roll) l_Machine_roll c_Machine_roll k_Machine_roll
  have F_Machine_set_up := fun_mk (st := s_Machine_set_up) l_Machine_set_up c_Machine_set_up k_Machine_set_up
  have F_Machine_press := fun_mk (st := s_Machine_press) l_Machine_press c_Machine_press k_Machine_press
  have F_Machine_stand := fun_mk (st := s_Machine_stand) l_Machine_stand c_Machine_stand k_Machine_stand
  have F_worked := fun_mk (st := s_worked) l_worked c_worked k_worked
  have F_need_both := fun_mk (st := s_need_both) l_need_both c_need_both k_need_both
  have F_marks_of := fun_mk (st := s_marks_of) l_marks_of c_marks_of k_marks_of
  have F_strikes := fun_mk (st := s_strikes) l_strikes c_strikes k_strikes
  have F__law_cell_at := fun_mk (st := s__law_cell_at) l__law_cell_at c__law_cell_at k__law_cell_at
  have F__law_mixed := fun_mk (st := s__law_mixed) l__law_mixed c__law_mixed k__law_mixed
  have F__law_draw := fun_mk (st := s__law_draw) l__law_draw c__law_draw k__law_draw
  have F__law_pick := fun_mk (st := s__law_pick) l__law_pick c__law_pick k__law_pick
  have F__law_machine := fun_mk (st := s__law_machine) l__law_machine c__law_machine k__law_machine
  have F__law_new := fun_mk (st := s__law_new) l__law_new c__law_new k__law_new
  have F__law_shut := fun_mk (st := s__law_shut) l__law_shut c__law_shut k__law_shut
  have F__law_go := fun_mk (st := s__law_go) l__law_go c__law_go k__law_go
  have F__law_as := fun_mk (st := s__law_as) l__law_as c__law_as k__law_as
  have F__law_ink := fun_mk (st := s__law_ink) l__law_ink c__law_ink k__law_ink
  have F__law_turn := fun_mk (st := s__law_turn) l__law_turn c__law_turn k__law_turn
  have F__law_step := fun_mk (st := s__law_step) l__law_step c__law_step k__law_step
  have F__law_press := fun_mk (st := s__law_press) l__law_press c__law_press k__law_press
  have F__law_worked := fun_mk (st := s__law_worked) l__law_worked c__law_worked k__law_worked
  have F__law_marks := fun_mk (st := s__law_marks) l__law_marks c__law_marks k__law_marks
  have F__law_which := fun_mk (st := s__law_which) l__law_which c__law_which k__law_which
  have F__law_ask := fun_mk (st := s__law_ask) l__law_ask c__law_ask k__law_ask
  have F_law := fun_mk (st := s_law) l_law c_law k_law
  let T : Txt K mg ({ xInkError := C_InkError, xNoMachine := C_NoMachine, xNoKeys := C_NoKeys, xNoKey := C_NoKey, xNoPlace := C_NoPlace, xNoGoal := C_NoGoal, xNoStrikes := C_NoStrikes, xNoText := C_NoText, xNoNumbers := C_NoNumbers, xTooWide := C_TooWide, xNothing := C_Nothing, cMachine := C_Machine, cTypist := 0, cHand := 0, fn := fun s => 0 } : Ad) := {
    ad := ⟨⟨nd⟩⟩,
    f_is_whole := ⟨f_is_whole, _, F_is_whole, F_is_whole.binds (ps := ["thing", "low", "most"]) fun _ _ _ _ _ _ us hl => match us, hl with | [_, _, _], _ => rfl⟩,
    gf_is_whole := PySem.W.mg_of X G a_is_whole,
    f_is_one_of := ⟨f_is_one_of, _, F_is_one_of, F_is_one_of.binds (ps := ["thing", "signs"]) fun _ _ _ _ _ _ us hl => match us, hl with | [_, _], _ => rfl⟩,
    gf_is_one_of := PySem.W.mg_of X G a_is_one_of,
    f_is_rising := ⟨f_is_rising, _, F_is_rising, F_is_rising.binds (ps := ["thing"]) fun _ _ _ _ _ _ us hl => match us, hl with | [_], _ => rfl⟩,
    gf_is_rising := PySem.W.mg_of X G a_is_rising,
    f_is_machine := ⟨f_is_machine, _, F_is_machine, F_is_machine.binds (ps := ["thing"]) fun _ _ _ _ _ _ us hl => match us, hl with | [_], _ => rfl⟩,
    gf_is_machine := PySem.W.mg_of X G a_is_machine,
    f_need_machine := ⟨f_need_machine, _, F_need_machine, F_need_machine.binds (ps := ["thing"]) fun _ _ _ _ _ _ us hl => match us, hl with | [_], _ => rfl⟩,
    gf_need_machine := PySem.W.mg_of X G a_need_machine,
    f_end_of := ⟨f_end_of, _, F_end_of, F_end_of.binds (ps := ["machine"]) fun _ _ _ _ _ _ us hl => match us, hl with | [_], _ => rfl⟩,
    gf_end_of := PySem.W.mg_of X G a_end_of,
    f_is_key := ⟨f_is_key, _, F_is_key, F_is_key.binds (ps := ["thing"]) fun _ _ _ _ _ _ us hl => match us, hl with | [_], _ => rfl⟩,
    gf_is_key := PySem.W.mg_of X G a_is_key,
    f_need_keys := ⟨f_need_keys, _, F_need_keys, F_need_keys.binds (ps := ["thing"]) fun _ _ _ _ _ _ us hl => match us, hl with | [_], _ => rfl⟩,
    gf_need_keys := PySem.W.mg_of X G a_need_keys,
    f_struck_as := ⟨f_struck_as, _, F_struck_as, F_struck_as.binds (ps := ["sign", "caps"]) fun _ _ _ _ _ _ us hl => match us, hl with | [_, _], _ => rfl⟩,
    gf_struck_as := PySem.W.mg_of X G a_struck_as,
    f_key_for := ⟨f_key_for, _, F_key_for, F_key_for.binds (ps := ["sign"]) fun _ _ _ _ _ _ us hl => match us, hl with | [_], _ => rfl⟩,
    gf_key_for := PySem.W.mg_of X G a_key_for,
    f_is_strike := ⟨f_is_strike, _, F_is_strike, F_is_strike.binds (ps := ["machine", "thing"]) fun _ _ _ _ _ _ us hl => match us, hl with | [_, _], _ => rfl⟩,
    gf_is_strike := PySem.W.mg_of X G a_is_strike,
    f_led := ⟨f_led, _, F_led, F_led.binds (ps := ["place", "goal"]) fun _ _ _ _ _ _ us hl => match us, hl with | [_, _], _ => rfl⟩,
    gf_led := PySem.W.mg_of X G a_led,
    f_home_row := ⟨f_home_row, _, F_home_row, F_home_row.binds (ps := ["machine", "row"]) fun _ _ _ _ _ _ us hl => match us, hl with | [_, _], _ => rfl⟩,
    gf_home_row := PySem.W.mg_of X G a_home_row,
    f_home := ⟨f_home, _, F_home, F_home.binds (ps := ["machine", "row"]) fun _ _ _ _ _ _ us hl => match us, hl with | [_, _], _ => rfl⟩,
    gf_home := PySem.W.mg_of X G a_home,
    f_keys_for := ⟨f_keys_for, _, F_keys_for, F_keys_for.binds (ps := ["machine", "some"]) fun _ _ _ _ _ _ us hl => match us, hl with | [_, _], _ => rfl⟩,
    gf_keys_for := PySem.W.mg_of X G a_keys_for,
    f_keys_of := ⟨f_keys_of, _, F_keys_of, F_keys_of.binds (ps := ["text"]) fun _ _ _ _ _ _ us hl => match us, hl with | [_], _ => rfl⟩,
    gf_keys_of := PySem.W.mg_of X G a_keys_of,
    f_Machine___init__ := ⟨f_Machine___init__, _, F_Machine___init__, F_Machine___init__.binds (ps := ["self", "machine", "tabs"]) fun _ _ _ _ _ _ us hl => match us, hl with | [_, _, _], _ => rfl⟩,
    f_Machine_is_locked := ⟨f_Machine_is_locked, _, F_Machine_is_locked, F_Machine_is_locked.binds (ps := ["self", "place"]) fun _ _ _ _ _ _ us hl => match us, hl with | [_, _], _ => rfl⟩,
    f_Machine_go_on := ⟨f_Machine_go_on, _, F_Machine_go_on, F_Machine_go_on.binds (ps := ["self", "place"]) fun _ _ _ _ _ _ us hl => match us, hl with | [_, _], _ => rfl⟩,
    f_Machine_strike := ⟨f_Machine_strike, _, F_Machine_strike, F_Machine_strike.binds (ps := ["self", "sign"]) fun _ _ _ _ _ _ us hl => match us, hl with | [_, _], _ => rfl⟩,
    f_Machine_lift := ⟨f_Machine_lift, _, F_Machine_lift, F_Machine_lift.binds (ps := ["self", "sign"]) fun _ _ _ _ _ _ us hl => match us, hl with | [_, _], _ => rfl⟩,
    f_Machine_move := ⟨f_Machine_move, _, F_Machine_move, F_Machine_move.binds (ps := ["self", "word"]) fun _ _ _ _ _ _ us hl => match us, hl with | [_, _], _ => rfl⟩,
    f_Machine_roll := ⟨f_Machine_roll, _, F_Machine_roll, F_Machine_roll.binds (ps := ["self", "word"]) fun _ _ _ _ _ _ us hl => match us, hl with | [_, _], _ => rfl⟩,
    f_Machine_set_up := ⟨f_Machine_set_up, _, F_Machine_set_up, F_Machine_set_up.binds (ps := ["self", "word"]) fun _ _ _ _ _ _ us hl => match us, hl with | [_, _], _ => rfl⟩,
    f_Machine_press := ⟨f_Machine_press, _, F_Machine_press, F_Machine_press.binds (ps := ["self", "key"]) fun _ _ _ _ _ _ us hl => match us, hl with | [_, _], _ => rfl⟩,
    f_Machine_stand := ⟨f_Machine_stand, _, F_Machine_stand, F_Machine_stand.binds (ps := ["self"]) fun _ _ _ _ _ _ us hl => match us, hl with | [_], _ => rfl⟩,
    f_worked := ⟨f_worked, _, F_worked, F_worked.binds (ps := ["machine", "tabs", "keys"]) fun _ _ _ _ _ _ us hl => match us, hl with | [_, _, _], _ => rfl⟩,
    gf_worked := PySem.W.mg_of X G a_worked,
    f_need_both := ⟨f_need_both, _, F_need_both, F_need_both.binds (ps := ["machine", "keys"]) fun _ _ _ _ _ _ us hl => match us, hl with | [_, _], _ => rfl⟩,
    gf_need_both := PySem.W.mg_of X G a_need_both,
    f_marks_of := ⟨f_marks_of, _, F_marks_of, F_marks_of.binds (ps := ["machine", "keys"]) fun _ _ _ _ _ _ us hl => match us, hl with | [_, _], _ => rfl⟩,
    gf_marks_of := PySem.W.mg_of X G a_marks_of,
    f_strikes := ⟨f_strikes, _, F_strikes, F_strikes.binds (ps := ["machine", "keys"]) fun _ _ _ _ _ _ us hl => match us, hl with | [_, _], _ => rfl⟩,
    gf_strikes := PySem.W.mg_of X G a_strikes,
    f__law_cell_at := ⟨f__law_cell_at, _, F__law_cell_at, F__law_cell_at.binds (ps := ["script", "k"]) fun _ _ _ _ _ _ us hl => match us, hl with | [_, _], _ => rfl⟩,
    gf__law_cell_at := PySem.W.mg_of X G a__law_cell_at,
    f__law_mixed := ⟨f__law_mixed, _, F__law_mixed, F__law_mixed.binds (ps := ["script", "k", "many"]) fun _ _ _ _ _ _ us hl => match us, hl with | [_, _, _], _ => rfl⟩,
    gf__law_mixed := PySem.W.mg_of X G a__law_mixed,
    f__law_draw := ⟨f__law_draw, _, F__law_draw, F__law_draw.binds (ps := ["script", "town", "many"]) fun _ _ _ _ _ _ us hl => match us, hl with | [_, _, _], _ => rfl⟩,
    gf__law_draw := PySem.W.mg_of X G a__law_draw,
    f__law_pick := ⟨f__law_pick, _, F__law_pick, F__law_pick.binds (ps := ["script", "town", "some"]) fun _ _ _ _ _ _ us hl => match us, hl with | [_, _, _], _ => rfl⟩,
    gf__law_pick := PySem.W.mg_of X G a__law_pick,
    f__law_machine := ⟨f__law_machine, _, F__law_machine, F__law_machine.binds (ps := ["script", "town"]) fun _ _ _ _ _ _ us hl => match us, hl with | [_, _], _ => rfl⟩,
    gf__law_machine := PySem.W.mg_of X G a__law_machine,
    f__law_new := ⟨f__law_new, _, F__law_new, F__law_new.binds (ps := ["machine", "tabs"]) fun _ _ _ _ _ _ us hl => match us, hl with | [_, _], _ => rfl⟩,
    gf__law_new := PySem.W.mg_of X G a__law_new,
    f__law_shut := ⟨f__law_shut, _, F__law_shut, F__law_shut.binds (ps := ["work", "place"]) fun _ _ _ _ _ _ us hl => match us, hl with | [_, _], _ => rfl⟩,
    gf__law_shut := PySem.W.mg_of X G a__law_shut,
    f__law_go := ⟨f__law_go, _, F__law_go, F__law_go.binds (ps := ["work", "place"]) fun _ _ _ _ _ _ us hl => match us, hl with | [_, _], _ => rfl⟩,
    gf__law_go := PySem.W.mg_of X G a__law_go,
    f__law_as := ⟨f__law_as, _, F__law_as, F__law_as.binds (ps := ["work", "sign"]) fun _ _ _ _ _ _ us hl => match us, hl with | [_, _], _ => rfl⟩,
    gf__law_as := PySem.W.mg_of X G a__law_as,
    f__law_ink := ⟨f__law_ink, _, F__law_ink, F__law_ink.binds (ps := ["work", "word", "sign"]) fun _ _ _ _ _ _ us hl => match us, hl with | [_, _, _], _ => rfl⟩,
    gf__law_ink := PySem.W.mg_of X G a__law_ink,
    f__law_turn := ⟨f__law_turn, _, F__law_turn, F__law_turn.binds (ps := ["work", "word"]) fun _ _ _ _ _ _ us hl => match us, hl with | [_, _], _ => rfl⟩,
    gf__law_turn := PySem.W.mg_of X G a__law_turn,
    f__law_step := ⟨f__law_step, _, F__law_step, F__law_step.binds (ps := ["work", "word"]) fun _ _ _ _ _ _ us hl => match us, hl with | [_, _], _ => rfl⟩,
    gf__law_step := PySem.W.mg_of X G a__law_step,
    f__law_press := ⟨f__law_press, _, F__law_press, F__law_press.binds (ps := ["work", "key"]) fun _ _ _ _ _ _ us hl => match us, hl with | [_, _], _ => rfl⟩,
    gf__law_press := PySem.W.mg_of X G a__law_press,
    f__law_worked := ⟨f__law_worked, _, F__law_worked, F__law_worked.binds (ps := ["machine", "tabs", "keys"]) fun _ _ _ _ _ _ us hl => match us, hl with | [_, _, _], _ => rfl⟩,
    gf__law_worked := PySem.W.mg_of X G a__law_worked,
    f__law_marks := ⟨f__law_marks, _, F__law_marks, F__law_marks.binds (ps := ["work"]) fun _ _ _ _ _ _ us hl => match us, hl with | [_], _ => rfl⟩,
    gf__law_marks := PySem.W.mg_of X G a__law_marks,
    f__law_which := ⟨f__law_which, _, F__law_which, F__law_which.binds (ps := ["e"]) fun _ _ _ _ _ _ us hl => match us, hl with | [_], _ => rfl⟩,
    gf__law_which := PySem.W.mg_of X G a__law_which,
    f__law_ask := ⟨f__law_ask, _, F__law_ask, F__law_ask.binds (ps := ["machine", "some"]) fun _ _ _ _ _ _ us hl => match us, hl with | [_, _], _ => rfl⟩,
    gf__law_ask := PySem.W.mg_of X G a__law_ask,
    f_law := ⟨f_law, _, F_law, F_law.binds (ps := ["script"]) fun _ _ _ _ _ _ us hl => match us, hl with | [_], _ => rfl⟩,
    gf_law := PySem.W.mg_of X G a_law,
    x_InkError := ⟨PySem.W.mg_of X G ax_InkError⟩,
    x_NoMachine := xx_NoMachine,
    x_NoKeys := xx_NoKeys,
    x_NoKey := ⟨PySem.W.mg_of X G ax_NoKey⟩,
    x_NoPlace := ⟨PySem.W.mg_of X G ax_NoPlace⟩,
    x_NoGoal := ⟨PySem.W.mg_of X G ax_NoGoal⟩,
    x_NoStrikes := xx_NoStrikes,
    x_NoText := ⟨PySem.W.mg_of X G ax_NoText⟩,
    x_NoNumbers := ⟨PySem.W.mg_of X G ax_NoNumbers⟩,
    x_TooWide := ⟨PySem.W.mg_of X G ax_TooWide⟩,
    x_Nothing := ⟨PySem.W.mg_of X G ax_Nothing⟩,
    cl_Machine := ⟨PySem.W.mg_of X G ax_Machine, ⟨pg_Machine, hd_Machine, po_Machine, sa_Machine⟩, ⟨mk_Machine, a_Machine___init__, ty_Machine___init__, kc_Machine⟩, ⟨a_Machine_go_on, ty_Machine_go_on, k_Machine_go_on⟩, ⟨a_Machine_is_locked, ty_Machine_is_locked, k_Machine_is_locked⟩, ⟨a_Machine_lift, ty_Machine_lift, k_Machine_lift⟩, ⟨a_Machine_move, ty_Machine_move, k_Machine_move⟩, ⟨a_Machine_press, ty_Machine_press, k_Machine_press⟩, ⟨a_Machine_roll, ty_Machine_roll, k_Machine_roll⟩, ⟨a_Machine_set_up, ty_Machine_set_up, k_Machine_set_up⟩, ⟨a_Machine_strike, ty_Machine_strike, k_Machine_strike⟩, na_Machine_caps, na_Machine_colour, na_Machine_dead, na_Machine_down, na_Machine_end, na_Machine_high, na_Machine_is_free, na_Machine_low, na_Machine_many, na_Machine_marks, na_Machine_place, na_Machine_rings, na_Machine_row, na_Machine_tabs⟩,
    g_LETTERS := by obtain ⟨t, e⟩ := ge_LETTERS; exact ⟨t, by rw [PySem.W.mg_of X G g_LETTERS, e]⟩,
    g_GREAT := by obtain ⟨t, e⟩ := ge_GREAT; exact ⟨t, by rw [PySem.W.mg_of X G g_GREAT, e]⟩,
    g_DEAD := by obtain ⟨t, e⟩ := ge_DEAD; exact ⟨t, by rw [PySem.W.mg_of X G g_DEAD, e]⟩,
    g_SIGNS := by obtain ⟨t, e⟩ := ge_SIGNS; exact ⟨t, by rw [PySem.W.mg_of X G g_SIGNS, e]⟩,
    g_MOVES := ⟨v_MOVES, PySem.W.mg_of X G g_MOVES, fun B => .tup (.inr ⟨_, its_MOVES, n_MOVES, gl_MOVES, rfl, rfl, by rw [← Array.length_toList, ← gv_MOVES.length, sizeLine_eq]; decide, gv_MOVES⟩) (dp_words _)⟩,
    g_TURNS := ⟨v_TURNS, PySem.W.mg_of X G g_TURNS, fun B => .tup (.inr ⟨_, its_TURNS, n_TURNS, gl_TURNS, rfl, rfl, by rw [← Array.length_toList, ← gv_TURNS.length, sizeLine_eq]; decide, gv_TURNS⟩) (dp_words _)⟩,
    g_LEAST := by obtain ⟨t, e⟩ := ge_LEAST; exact ⟨t, by rw [PySem.W.mg_of X G g_LEAST, e]⟩,
    g_WIDEST := by obtain ⟨t, e⟩ := ge_WIDEST; exact ⟨t, by rw [PySem.W.mg_of X G g_WIDEST, e]⟩,
    g_KEYS := by obtain ⟨t, e⟩ := ge_KEYS; exact ⟨t, by rw [PySem.W.mg_of X G g_KEYS, e]⟩,
    g_ROWS := by obtain ⟨t, e⟩ := ge_ROWS; exact ⟨t, by rw [PySem.W.mg_of X G g_ROWS, e]⟩,
    g_COLOURS := ⟨v_COLOURS, PySem.W.mg_of X G g_COLOURS, fun B => .tup (.inr ⟨_, its_COLOURS, n_COLOURS, gl_COLOURS, rfl, rfl, by rw [← Array.length_toList, ← gv_COLOURS.length, sizeLine_eq]; decide, gv_COLOURS⟩) (dp_words _)⟩,
    g_MOST := by obtain ⟨t, e⟩ := ge_MOST; exact ⟨t, by rw [PySem.W.mg_of X G g_MOST, e]⟩,
    g_BELL := by obtain ⟨t, e⟩ := ge_BELL; exact ⟨t, by rw [PySem.W.mg_of X G g_BELL, e]⟩,
    b_ValueError := PySem.W.mg_none_of X G z_ValueError,
    b_all := PySem.W.mg_none_of X G z_all,
    b_bool := PySem.W.mg_none_of X G z_bool,
    b_enumerate := PySem.W.mg_none_of X G z_enumerate,
    b_int := PySem.W.mg_none_of X G z_int,
    b_isinstance := PySem.W.mg_none_of X G z_isinstance,
    b_len := PySem.W.mg_none_of X G z_len,
    b_list := PySem.W.mg_none_of X G z_list,
    b_max := PySem.W.mg_none_of X G z_max,
    b_min := PySem.W.mg_none_of X G z_min,
    b_range := PySem.W.mg_none_of X G z_range,
    b_set := PySem.W.mg_none_of X G z_set,
    b_sorted := PySem.W.mg_none_of X G z_sorted,
    b_str := PySem.W.mg_none_of X G z_str,
    b_tuple := PySem.W.mg_none_of X G z_tuple,
    b_zip := PySem.W.mg_none_of X G z_zip,
    e_NoStrikes := ex_NoStrikes,
    c_NoStrikes := ec_NoStrikes,
    t_NoStrikes := tabE_ok nd (fun i a e => match i, e with | 0, e => by cases e; exact kt_NoStrikes_NoMachine | 1, e => by cases e; exact kt_NoStrikes_NoKeys | 2, e => by cases e; exact kt_NoStrikes_NoKey | 3, e => by cases e; exact kt_NoStrikes_NoPlace | 4, e => by cases e; exact kt_NoStrikes_NoGoal | 5, e => by cases e; exact kt_NoStrikes_NoStrikes | 6, e => by cases e; exact kt_NoStrikes_NoText | 7, e => by cases e; exact kt_NoStrikes_NoNumbers | 8, e => by cases e; exact kt_NoStrikes_TooWide | 9, e => by cases e; exact kt_NoStrikes_Nothing | _ + 10, e => nomatch e) kv_NoStrikes }
  exact ⟨T.f_law.fd, fun s v => .of_eq rfl, fun base _ _ => (ok_law T).imp fun _ _ _ _ => sp_phL⟩
end DL.K08
open PySem PySem.W PyProof.Rows DL in
set_option maxHeartbeats 0 in
theorem PySem.Challenge.cw_inkcarriage_k08_whole_keys_for_holds : PySem.Challenge.rw_inkcarriage_k08_whole_keys_for.Holds := by
  w_on; o_law; k_head; (case hw => w_witness2)
  k_fill
  refine L2.walk_of (l := PySem.Challenge.rw_inkcarriage_k08_whole_keys_for) (n := 63) (k := 7) (x := "script") (CX := fun w => L2N.CX (PySem.Challenge.rw_inkcarriage_k08_whole_keys_for).prog w) (sp := fun w => spT _) rfl (by decide) rfl ⟨rfl, by decide, by decide⟩ (fun w h Y => PySem.W.kIn_of Y) ?F (fun _ _ a ns hl _ hS => ⟨a, ns, rfl, hS, hl, fun _ => rfl⟩) (fun _ _ _ _ _ h => cx_no h)
  case F =>
    intro w mg fa h KX G hmg
    refine' DL.K08.all_mk KX G hmg ?ax_InkError ?ax_NoMachine ?xx_NoMachine ?ax_NoKeys ?xx_NoKeys ?ax_NoKey ?ax_NoPlace ?ax_NoGoal ?ax_NoStrikes ?xx_NoStrikes ?ax_NoText ?ax_NoNumbers ?ax_TooWide ?ax_Nothing ?ex_NoStrikes ?ec_NoStrikes ?kt_NoStrikes_NoMachine ?kt_NoStrikes_NoKeys ?kt_NoStrikes_NoKey ?kt_NoStrikes_NoPlace ?kt_NoStrikes_NoGoal ?kt_NoStrikes_NoStrikes ?kt_NoStrikes_NoText ?kt_NoStrikes_NoNumbers ?kt_NoStrikes_TooWide ?kt_NoStrikes_Nothing ?kv_NoStrikes ?ax_Machine ?pg_Machine ?hd_Machine ?po_Machine ?sa_Machine ?mk_Machine ?kc_Machine ?na_Machine_caps ?na_Machine_colour ?na_Machine_dead ?na_Machine_down ?na_Machine_end ?na_Machine_high ?na_Machine_is_free ?na_Machine_low ?na_Machine_many ?na_Machine_marks ?na_Machine_place ?na_Machine_rings ?na_Machine_row ?na_Machine_tabs ?a_is_whole ?l_is_whole ?c_is_whole ?k_is_whole ?a_is_one_of ?l_is_one_of ?c_is_one_of ?k_is_one_of ?a_is_rising ?l_is_rising ?c_is_rising ?k_is_rising ?a_is_machine ?l_is_machine ?c_is_machine ?k_is_machine ?a_need_machine ?l_need_machine ?c_need_machine ?k_need_machine ?a_end_of ?l_end_of ?c_end_of ?k_end_of ?a_is_key ?l_is_key ?c_is_key ?k_is_key ?a_need_keys ?l_need_keys ?c_need_keys ?k_need_keys ?a_struck_as ?l_struck_as ?c_struck_as ?k_struck_as ?a_key_for ?l_key_for ?c_key_for ?k_key_for ?a_is_strike ?l_is_strike ?c_is_strike ?k_is_strike ?a_led ?l_led ?c_led ?k_led ?a_home_row ?l_home_row ?c_home_row ?k_home_row ?a_home ?l_home ?c_home ?k_home ?a_keys_for ?l_keys_for ?c_keys_for ?k_keys_for ?a_keys_of ?l_keys_of ?c_keys_of ?k_keys_of ?a_Machine___init__ ?ty_Machine___init__ ?l_Machine___init__ ?c_Machine___init__ ?k_Machine___init__ ?a_Machine_is_locked ?ty_Machine_is_locked ?l_Machine_is_locked ?c_Machine_is_locked ?k_Machine_is_locked ?a_Machine_go_on ?ty_Machine_go_on ?l_Machine_go_on ?c_Machine_go_on ?k_Machine_go_on ?a_Machine_strike ?ty_Machine_strike ?l_Machine_strike ?c_Machine_strike ?k_Machine_strike ?a_Machine_lift ?ty_Machine_lift ?l_Machine_lift ?c_Machine_lift ?k_Machine_lift ?a_Machine_move ?ty_Machine_move ?l_Machine_move ?c_Machine_move ?k_Machine_move ?a_Machine_roll ?ty_Machine_roll ?l_Machine_roll ?c_Machine_roll ?k_Machine_roll ?a_Machine_set_up ?ty_Machine_set_up ?l_Machine_set_up ?c_Machine_set_up ?k_Machine_set_up ?a_Machine_press ?ty_Machine_press ?l_Machine_press ?c_Machine_press ?k_Machine_press ?a_Machine_stand ?ty_Machine_stand ?l_Machine_stand ?c_Machine_stand ?k_Machine_stand ?a_worked ?l_worked ?c_worked ?k_worked ?a_need_both ?l_need_both ?c_need_both ?k_need_both ?a_marks_of ?l_marks_of ?c_marks_of ?k_marks_of ?a_strikes ?l_strikes ?c_strikes ?k_strikes ?a__law_cell_at ?l__law_cell_at ?c__law_cell_at ?k__law_cell_at ?a__law_mixed ?l__law_mixed ?c__law_mixed ?k__law_mixed ?a__law_draw ?l__law_draw ?c__law_draw ?k__law_draw ?a__law_pick ?l__law_pick ?c__law_pick ?k__law_pick ?a__law_machine ?l__law_machine ?c__law_machine ?k__law_machine ?a__law_new ?l__law_new ?c__law_new ?k__law_new ?a__law_shut ?l__law_shut ?c__law_shut ?k__law_shut ?a__law_go ?l__law_go ?c__law_go ?k__law_go ?a__law_as ?l__law_as ?c__law_as ?k__law_as ?a__law_ink ?l__law_ink ?c__law_ink ?k__law_ink ?a__law_turn ?l__law_turn ?c__law_turn ?k__law_turn ?a__law_step ?l__law_step ?c__law_step ?k__law_step ?a__law_press ?l__law_press ?c__law_press ?k__law_press ?a__law_worked ?l__law_worked ?c__law_worked ?k__law_worked ?a__law_marks ?l__law_marks ?c__law_marks ?k__law_marks ?a__law_which ?l__law_which ?c__law_which ?k__law_which ?a__law_ask ?l__law_ask ?c__law_ask ?k__law_ask ?a_law ?l_law ?c_law ?k_law ?g_LETTERS ?ge_LETTERS ?g_GREAT ?ge_GREAT ?g_DEAD ?ge_DEAD ?g_SIGNS ?ge_SIGNS ?g_MOVES ?gl_MOVES ?gv_MOVES ?g_TURNS ?gl_TURNS ?gv_TURNS ?g_LEAST ?ge_LEAST ?g_WIDEST ?ge_WIDEST ?g_KEYS ?ge_KEYS ?g_ROWS ?ge_ROWS ?g_COLOURS ?gl_COLOURS ?gv_COLOURS ?g_MOST ?ge_MOST ?g_BELL ?ge_BELL ?z_ValueError ?z_all ?z_bool ?z_enumerate ?z_int ?z_isinstance ?z_len ?z_list ?z_max ?z_min ?z_range ?z_set ?z_sorted ?z_str ?z_tuple ?z_zip ?nd
    (case ax_InkError => k_is)
    (case ax_NoMachine => k_is)
    (case xx_NoMachine => exact ⟨PySem.W.mg_of KX G (by k_is), (by k_exc), (by k_is), (by k_is), (by k_is)⟩)
    (case ax_NoKeys => k_is)
    (case xx_NoKeys => exact ⟨PySem.W.mg_of KX G (by k_is), (by k_exc), (by k_is), (by k_is), (by k_is)⟩)
    (case ax_NoKey => k_is)
    (case ax_NoPlace => k_is)
    (case ax_NoGoal => k_is)
    (case ax_NoStrikes => k_is)
    (case xx_NoStrikes => exact ⟨PySem.W.mg_of KX G (by k_is), (by k_exc), (by k_is), (by k_is), (by k_is)⟩)
    (case ax_NoText => k_is)
    (case ax_NoNumbers => k_is)
    (case ax_TooWide => k_is)
    (case ax_Nothing => k_is)
    (case ex_NoStrikes => first | k_is | exact PySem.W.exm_ref (by k_is) (by k_is) (by k_is) (by k_is))
    (case ec_NoStrikes => exact ⟨(by k_is), (by k_is), (by k_is), (by k_is), (by k_is), (by k_is), (by k_is), (by k_is)⟩)
    (case kt_NoStrikes_NoMachine => kit_is)
    (case kt_NoStrikes_NoKeys => kit_is)
    (case kt_NoStrikes_NoKey => kit_is)
    (case kt_NoStrikes_NoPlace => kit_is)
    (case kt_NoStrikes_NoGoal => kit_is)
    (case kt_NoStrikes_NoStrikes => kit_is)
    (case kt_NoStrikes_NoText => kit_is)
    (case kt_NoStrikes_NoNumbers => kit_is)
    (case kt_NoStrikes_TooWide => kit_is)
    (case kt_NoStrikes_Nothing => kit_is)
    (case kv_NoStrikes => kit_is)
    (case ax_Machine => k_is)
    (case pg_Machine => k_is)
    (case hd_Machine => k_is)
    (case po_Machine => k_is)
    (case sa_Machine => k_is)
    (case mk_Machine => k_is)
    (case kc_Machine => k_is)
    (case na_Machine_caps => k_is)
    (case na_Machine_colour => k_is)
    (case na_Machine_dead => k_is)
    (case na_Machine_down => k_is)
    (case na_Machine_end => k_is)
    (case na_Machine_high => k_is)
    (case na_Machine_is_free => k_is)
    (case na_Machine_low => k_is)
    (case na_Machine_many => k_is)
    (case na_Machine_marks => k_is)
    (case na_Machine_place => k_is)
    (case na_Machine_rings => k_is)
    (case na_Machine_row => k_is)
    (case na_Machine_tabs => k_is)
    (case a_is_whole => k_is)
    (case l_is_whole => k_is)
    (case c_is_whole => k_is)
    (case k_is_whole => k_is)
    (case a_is_one_of => k_is)
    (case l_is_one_of => k_is)
    (case c_is_one_of => k_is)
    (case k_is_one_of => k_is)
    (case a_is_rising => k_is)
    (case l_is_rising => k_is)
    (case c_is_rising => k_is)
    (case k_is_rising => k_is)
    (case a_is_machine => k_is)
    (case l_is_machine => k_is)
    (case c_is_machine => k_is)
    (case k_is_machine => k_is)
    (case a_need_machine => k_is)
    (case l_need_machine => k_is)
    (case c_need_machine => k_is)
    (case k_need_machine => k_is)
    (case a_end_of => k_is)
    (case l_end_of => k_is)
    (case c_end_of => k_is)
    (case k_end_of => k_is)
    (case a_is_key => k_is)
    (case l_is_key => k_is)
    (case c_is_key => k_is)
    (case k_is_key => k_is)
    (case a_need_keys => k_is)
    (case l_need_keys => k_is)
    (case c_need_keys => k_is)
    (case k_need_keys => k_is)
    (case a_struck_as => k_is)
    (case l_struck_as => k_is)
    (case c_struck_as => k_is)
    (case k_struck_as => k_is)
    (case a_key_for => k_is)
    (case l_key_for => k_is)
    (case c_key_for => k_is)
    (case k_key_for => k_is)
    (case a_is_strike => k_is)
    (case l_is_strike => k_is)
    (case c_is_strike => k_is)
    (case k_is_strike => k_is)
    (case a_led => k_is)
    (case l_led => k_is)
    (case c_led => k_is)
    (case k_led => k_is)
    (case a_home_row => k_is)
    (case l_home_row => k_is)
    (case c_home_row => k_is)
    (case k_home_row => k_is)
    (case a_home => k_is)
    (case l_home => k_is)
    (case c_home => k_is)
    (case k_home => k_is)
    (case a_keys_for => k_is)
    (case l_keys_for => k_is)
    (case c_keys_for => k_is)
    (case k_keys_for => k_is)
    (case a_keys_of => k_is)
    (case l_keys_of => k_is)
    (case c_keys_of => k_is)
    (case k_keys_of => k_is)
    (case a_Machine___init__ => k_is)
    (case ty_Machine___init__ => k_is)
    (case l_Machine___init__ => k_is)
    (case c_Machine___init__ => k_is)
    (case k_Machine___init__ => k_is)
    (case a_Machine_is_locked => k_is)
    (case ty_Machine_is_locked => k_is)
    (case l_Machine_is_locked => k_is)
    (case c_Machine_is_locked => k_is)
    (case k_Machine_is_locked => k_is)
    (case a_Machine_go_on => k_is)
    (case ty_Machine_go_on => k_is)
    (case l_Machine_go_on => k_is)
    (case c_Machine_go_on => k_is)
    (case k_Machine_go_on => k_is)
    (case a_Machine_strike => k_is)
    (case ty_Machine_strike => k_is)
    (case l_Machine_strike => k_is)
    (case c_Machine_strike => k_is)
    (case k_Machine_strike => k_is)
    (case a_Machine_lift => k_is)
    (case ty_Machine_lift => k_is)
    (case l_Machine_lift => k_is)
    (case c_Machine_lift => k_is)
    (case k_Machine_lift => k_is)
    (case a_Machine_move => k_is)
    (case ty_Machine_move => k_is)
    (case l_Machine_move => k_is)
    (case c_Machine_move => k_is)
    (case k_Machine_move => k_is)
    (case a_Machine_roll => k_is)
    (case ty_Machine_roll => k_is)
    (case l_Machine_roll => k_is)
    (case c_Machine_roll => k_is)
    (case k_Machine_roll => k_is)
    (case a_Machine_set_up => k_is)
    (case ty_Machine_set_up => k_is)
    (case l_Machine_set_up => k_is)
    (case c_Machine_set_up => k_is)
    (case k_Machine_set_up => k_is)
    (case a_Machine_press => k_is)
    (case ty_Machine_press => k_is)
    (case l_Machine_press => k_is)
    (case c_Machine_press => k_is)
    (case k_Machine_press => k_is)
    (case a_Machine_stand => k_is)
    (case ty_Machine_stand => k_is)
    (case l_Machine_stand => k_is)
    (case c_Machine_stand => k_is)
    (case k_Machine_stand => k_is)
    (case a_worked => k_is)
    (case l_worked => k_is)
    (case c_worked => k_is)
    (case k_worked => k_is)
    (case a_need_both => k_is)
    (case l_need_both => k_is)
    (case c_need_both => k_is)
    (case k_need_both => k_is)
    (case a_marks_of => k_is)
    (case l_marks_of => k_is)
    (case c_marks_of => k_is)
    (case k_marks_of => k_is)
    (case a_strikes => k_is)
    (case l_strikes => k_is)
    (case c_strikes => k_is)
    (case k_strikes => k_is)
    (case a__law_cell_at => k_is)
    (case l__law_cell_at => k_is)
    (case c__law_cell_at => k_is)
    (case k__law_cell_at => k_is)
    (case a__law_mixed => k_is)
    (case l__law_mixed => k_is)
    (case c__law_mixed => k_is)
    (case k__law_mixed => k_is)
    (case a__law_draw => k_is)
    (case l__law_draw => k_is)
    (case c__law_draw => k_is)
    (case k__law_draw => k_is)
    (case a__law_pick => k_is)
    (case l__law_pick => k_is)
    (case c__law_pick => k_is)
    (case k__law_pick => k_is)
    (case a__law_machine => k_is)
    (case l__law_machine => k_is)
    (case c__law_machine => k_is)
    (case k__law_machine => k_is)
    (case a__law_new => k_is)
    (case l__law_new => k_is)
    (case c__law_new => k_is)
    (case k__law_new => k_is)
    (case a__law_shut => k_is)
    (case l__law_shut => k_is)
    (case c__law_shut => k_is)
    (case k__law_shut => k_is)
    (case a__law_go => k_is)
    (case l__law_go => k_is)
    (case c__law_go => k_is)
    (case k__law_go => k_is)
    (case a__law_as => k_is)
    (case l__law_as => k_is)
    (case c__law_as => k_is)
    (case k__law_as => k_is)
    (case a__law_ink => k_is)
    (case l__law_ink => k_is)
    (case c__law_ink => k_is)
    (case k__law_ink => k_is)
    (case a__law_turn => k_is)
    (case l__law_turn => k_is)
    (case c__law_turn => k_is)
    (case k__law_turn => k_is)
    (case a__law_step => k_is)
    (case l__law_step => k_is)
    (case c__law_step => k_is)
    (case k__law_step => k_is)
    (case a__law_press => k_is)
    (case l__law_press => k_is)
    (case c__law_press => k_is)
    (case k__law_press => k_is)
    (case a__law_worked => k_is)
    (case l__law_worked => k_is)
    (case c__law_worked => k_is)
    (case k__law_worked => k_is)
    (case a__law_marks => k_is)
    (case l__law_marks => k_is)
    (case c__law_marks => k_is)
    (case k__law_marks => k_is)
    (case a__law_which => k_is)
    (case l__law_which => k_is)
    (case c__law_which => k_is)
    (case k__law_which => k_is)
    (case a__law_ask => k_is)
    (case l__law_ask => k_is)
    (case c__law_ask => k_is)
    (case k__law_ask => k_is)
    (case a_law => k_is)
    (case l_law => k_is)
    (case c_law => k_is)
    (case k_law => k_is)
    (case g_LETTERS => k_is)
    (case ge_LETTERS => exact ⟨_, rfl⟩)
    (case g_GREAT => k_is)
    (case ge_GREAT => exact ⟨_, rfl⟩)
    (case g_DEAD => k_is)
    (case ge_DEAD => exact ⟨_, rfl⟩)
    (case g_SIGNS => k_is)
    (case ge_SIGNS => exact ⟨_, rfl⟩)
    (case g_MOVES => k_is)
    (case gl_MOVES => k_is)
    (case gv_MOVES => exact .cons ⟨_, rfl⟩ (.cons ⟨_, rfl⟩ (.cons ⟨_, rfl⟩ (.cons ⟨_, rfl⟩ (.cons ⟨_, rfl⟩ (.cons ⟨_, rfl⟩ (.cons ⟨_, rfl⟩ (.nil))))))))
    (case g_TURNS => k_is)
    (case gl_TURNS => k_is)
    (case gv_TURNS => exact .cons ⟨_, rfl⟩ (.cons ⟨_, rfl⟩ (.cons ⟨_, rfl⟩ (.cons ⟨_, rfl⟩ (.cons ⟨_, rfl⟩ (.cons ⟨_, rfl⟩ (.cons ⟨_, rfl⟩ (.cons ⟨_, rfl⟩ (.nil)))))))))
    (case g_LEAST => k_is)
    (case ge_LEAST => exact ⟨_, rfl⟩)
    (case g_WIDEST => k_is)
    (case ge_WIDEST => exact ⟨_, rfl⟩)
    (case g_KEYS => k_is)
    (case ge_KEYS => exact ⟨_, rfl⟩)
    (case g_ROWS => k_is)
    (case ge_ROWS => exact ⟨_, rfl⟩)
    (case g_COLOURS => k_is)
    (case gl_COLOURS => k_is)
    (case gv_COLOURS => exact .cons ⟨_, rfl⟩ (.cons ⟨_, rfl⟩ (.nil)))
    (case g_MOST => k_is)
    (case ge_MOST => exact ⟨_, rfl⟩)
    (case g_BELL => k_is)
    (case ge_BELL => exact ⟨_, rfl⟩)
    (case z_ValueError => k_is)
    (case z_all => k_is)
    (case z_bool => k_is)
    (case z_enumerate => k_is)
    (case z_int => k_is)
    (case z_isinstance => k_is)
    (case z_len => k_is)
    (case z_list => k_is)
    (case z_max => k_is)
    (case z_min => k_is)
    (case z_range => k_is)
    (case z_set => k_is)
    (case z_sorted => k_is)
    (case z_str => k_is)
    (case z_tuple => k_is)
    (case z_zip => k_is)
    (case nd => decide)
end
